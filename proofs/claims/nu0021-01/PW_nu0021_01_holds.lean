import PyProof.Rows.All
import Wide.All
import OpenK.AllK
import Wide.FinOn
import PyProof.InstStoreFacts
import KE.KTryDeepN
import KE.RegKTryDeep
import Lean
import PySem.Challenge.RW_nu0021_01
open PySem PySem.W PyProof.Rows
set_option Elab.async false
section
open PySem PySem.W PyProof.Rows
set_option maxRecDepth 100000
namespace Mine
theorem contains_long (x : Str) (l : List Str) (n : Nat) (hx : n ≤ x.cps.size) (hl : l.all (fun y => decide (y.cps.size < n)) = true) : l.contains x = false := by
  rw [Bool.eq_false_iff]
  intro h
  have hm := List.contains_iff_mem.mp h
  have := List.all_eq_true.mp hl x hm
  have := of_decide_eq_true this
  omega
theorem str_ok (k : Look) (x : Str) (hb : k.but = none) (hs : k.strict = false) (hf : k.foot = none)
    (h1 : frameAttrs.contains x = false) (h2 : x.opensWith "__" = false) (h3 : roadStr x = false) : k.str x = true := by
  unfold Look.str Look.word attrL
  rw [hb, hs, hf, h1, h2, h3]
  simp
theorem nr_cons {lk : Look} {s : Stmt} {r : List Stmt} (h1 : noRoadLS lk s = true) (h2 : noRoadLSs lk r = true) : noRoadLSs lk (s :: r) = true := by
  show (noRoadLS lk s && noRoadLSs lk r) = true
  rw [h1, h2]; rfl
theorem nr_def {lk : Look} {n : Str} {x : Str} {bd : Str} {p q z : Pos} {kk : Nat} {sc : Scope} {ts : Option Scope}
    (h : lk.inDef.str x = true) : noRoadLS lk (.FunctionDef n ⟨[], [], none, [], [], none, []⟩ [.Return (some (.Constant (.str x) kk p)) q] [] none [] sc ts bd z) = true := by
  show (true && ((true && lk.inDef.str x) && true) && true && true && true) = true
  rw [h]; rfl
theorem any_map (cs : List Char) (p : Nat → Bool) (h : cs.all (fun c => !p c.toNat) = true) : ((cs.map Char.toNat).toArray).any p = false := by
  rw [List.any_toArray, List.any_map, Bool.eq_false_iff]
  intro hh
  obtain ⟨c, hc, hp⟩ := List.any_eq_true.mp hh
  have := List.all_eq_true.mp h c hc
  simp at this hp
  rw [hp] at this
  exact Bool.noConfusion this
theorem str_okL (k : Look) (cs : List Char) (hb : k.but = none) (hs : k.strict = false) (hf : k.foot = none)
    (hl : Nat.ble 100 cs.length = true) (h1 : frameAttrs.all (fun y => decide (y.cps.size < 100)) = true)
    (h2 : ((cs.map Char.toNat).take 2) ≠ [95, 95])
    (h3 : cs.all (fun c => !(c.toNat == 123 || c.toNat == 125)) = true) (h4 : cs.all (fun c => !(c.toNat == 46)) = true) : k.str (Str.ofString (String.ofList cs)) = true := by
  rw [PySem.W.Fast.ofString_ofList]
  refine str_ok k _ hb hs hf ?_ ?_ ?_
  · refine contains_long _ _ 100 ?_ h1
    have := Nat.le_of_ble_eq_true hl
    simpa using this
  · unfold Str.opensWith
    have hu : (Str.ofString "__").cps = #[95, 95] := by decide +kernel
    rw [hu, beq_eq_false_iff_ne]
    intro h
    apply h2
    have h' := congrArg Array.toList h
    simpa using h'
  · unfold roadStr
    rw [any_map cs _ h3, any_map cs _ h4]
    rfl
theorem body_is : PySem.Challenge.pw_nu0021_01.main.body = PySem.Challenge.pw_nu0021_01.main.body.head! :: (PySem.Challenge.pw_nu0021_01.main.body.drop 1).head! :: PySem.Challenge.pw_nu0021_01.main.body.drop 2 := by rfl
/-- the look at the text, its long row apart -/
theorem all_ok (k : Look) (hb : k.inDef.but = none) (hs : k.inDef.strict = false) (hf : k.inDef.foot = none) (head : noRoadLS k (PySem.Challenge.pw_nu0021_01.main.body.head!) = true) (rest : noRoadLSs k (PySem.Challenge.pw_nu0021_01.main.body.drop 2) = true) :
    noRoadLSs k PySem.Challenge.pw_nu0021_01.main.body = true := by
  rw [body_is]
  refine nr_cons head (nr_cons ?_ rest)
  refine nr_def ?_
  refine str_okL _ _ hb hs hf ?_ ?_ ?_ ?_ ?_
  · rfl
  · decide +kernel
  · decide +kernel
  · rfl
  · rfl
set_option maxHeartbeats 2000000 in
theorem law_ok : PySem.Challenge.rw_nu0021_01.wellSaid = true := by
  have h1 : looksOpen PySem.Challenge.rw_nu0021_01.row.prog = true := by
    unfold looksOpen
    refine look_both (look_both ?_ ?_) ?_
    · decide +kernel
    · refine all_ok _ ?_ ?_ ?_ ?_ ?_
      · rfl
      · decide +kernel
      · rfl
      · decide +kernel
      · decide +kernel
    · decide +kernel
  have h2 : PySem.Challenge.rw_nu0021_01.row.wellSaid = true := by
    unfold OpenRow.wellSaid OpenRow.partSaid
    rw [h1]
    decide +kernel
  unfold OpenLaw.wellSaid
  iterate 18 (refine look_both ?_ (by decide +kernel))
  exact h2
end Mine
end

section
open PySem PySem.W PyProof.Rows
set_option maxRecDepth 100000
namespace Mine
section
local macro_rules | `(tactic| o_head ($_f:ident $k:term $a:term $_p:term)) => `(tactic| (have zk := $k; have za := $a; assumption))
theorem laid (_h : PySem.Challenge.rw_nu0021_01.row.Holds) : PySem.Challenge.rw_nu0021_01.row.Holds := by
  k_head
end
/-- the body of a statement of the text, read off the program -/
noncomputable def bodyAt (n : Nat) (p : Program) : FuncBody := match p.main.body.drop n with
  | .FunctionDef _ _ b _ _ _ _ _ _ _ :: _ => .stmts b
  | _ => .stmts []
noncomputable def withBody (b : FuncBody) (o : Obj) : Obj := match o with
  | ⟨c, d, .func f, sl⟩ => ⟨c, d, .func { f with body := b }, sl⟩
  | o => o
/-- the long text, sign by sign, and where its row stands -/
def IsTold (_ : Frag) (x : List Char × Nat × Pos × Pos) : Prop := bodyAt 1 PySem.Challenge.pw_nu0021_01 = .stmts [.Return (some (.Constant (.str (Str.ofString (String.ofList x.1))) x.2.1 x.2.2.1)) x.2.2.2]
noncomputable def told : {x : List Char × Nat × Pos × Pos // IsTold [] x} := ⟨(_, _, _, _), by exact rfl⟩
noncomputable def longText : Str := ⟨(told.1.1.map Char.toNat).toArray⟩
theorem longText_is : Str.ofString (String.ofList told.1.1) = longText := Fast.ofString_ofList _
noncomputable def longBody : FuncBody := .stmts [.Return (some (.Constant (.str longText) told.1.2.1 told.1.2.2.1)) told.1.2.2.2]
theorem longBody_is : bodyAt 1 PySem.Challenge.pw_nu0021_01 = longBody := Eq.trans told.2 (by rw [longText_is]; rfl)
noncomputable def addrs : List Nat := [2, 3, 15, 17, 18, 20, 21, 22, 24, 25, 27, 28, 29, 36, 38, 39, 41, 42, 43, 44, 45, 46, 49, 56, 57, 58, 61, 68, 69, 70, 73, 75, 76, 78, 79, 80, 81, 83, 84, 86, 87, 88, 90, 91, 93, 94, 95, 97, 98, 100, 101, 102, 104, 105, 107, 108, 116, 118, 119, 121, 122, 123, 125, 126, 128, 129, 130, 132, 133, 135, 136, 137, 139, 140, 142, 143, 144, 145, 146, 147, 148, 151, 153, 154, 156, 157, 158, 160, 161, 163, 164, 165, 167, 168, 170, 171, 172, 174, 175, 177, 178, 179, 181, 182, 184, 185, 186, 189, 190, 191, 194, 195, 196, 198, 199, 201, 202, 203, 206, 207, 208, 210, 211, 213, 214, 215, 218, 219, 220, 222, 223, 225, 226, 227, 230, 231, 232, 234, 235, 237, 238, 239, 241, 242, 244, 245, 246, 248, 249, 251, 252, 253, 255, 256, 258, 259, 260, 262, 263, 265, 266, 267, 269, 270, 272, 273, 274, 277, 278, 279, 281, 282, 284, 285, 286, 289, 290]
noncomputable def hook (_ : Frag) : Hook := kHook laid.heap_1 addrs (fun _ => by kernel_rfl)
theorem hook_in {w : World} {h : Heap} (Y : (hook []).says w h) : (laid.heap_1 w.params).In h := Y
/-- the text less its six rows that the walk looks at one by one -/
noncomputable def hd.view_1 : Program := { PySem.Challenge.pw_nu0021_01 with main := { PySem.Challenge.pw_nu0021_01.main with body := (((((PySem.Challenge.pw_nu0021_01.main.body.eraseIdx 32).eraseIdx 19).eraseIdx 11).eraseIdx 7).eraseIdx 3).eraseIdx 0 } }
theorem left_is : LeftO PySem.Challenge.pw_nu0021_01 hd.view_1 [Str.ofString "fraction"] (fun s => xlAt hd.view_1 [] s && recOk (RowW.records PySem.Challenge.rw_nu0021_01.row.toRowW) s) (hook []).obs (hook []).val 3944 := by
  intro w
  kernel_rfl
set_option maxHeartbeats 8000000 in
theorem hd {d : DefRec} {kwd : List (Str × Expr)} (hdef : defOf hd.view_1 PySem.Challenge.rw_nu0021_01.row.name = some (d, kwd)) (hp : PySem.Challenge.rw_nu0021_01.row.prog.theDef PySem.Challenge.rw_nu0021_01.row.name = some (d.params, d.body, d.scope)) (hk : kwWritten? d.params.kwonlyargs d.params.kw_defaults = some kwd)
    (walk : WalkO hd.view_1 [Str.ofString "fraction"] (XL hd.view_1 []) (hook []).says PySem.Challenge.rw_nu0021_01.row.toRowW
    d kwd fun f vs => PySem.call f vs) : PySem.Challenge.rw_nu0021_01.Holds := by
  refine holds_law Mine.law_ok fun said => ?_
  refine holds_open (q := hd.view_1) (loose := [Str.ofString "fraction"]) (Xt := fun s => xlAt hd.view_1 [] s && recOk (RowW.records PySem.Challenge.rw_nu0021_01.row.toRowW) s) (XP := XL hd.view_1 []) (Yf := Hook.obs (hook [])) (Ya := Hook.val (hook [])) (YP := Hook.says (hook [])) (N := 3944) left_is (Hook.of (hook [])) (Hook.keeps (hook [])) (fun s e => xl_of s (Bool.and_eq_true_iff.mp e).1) XL.keeps hdef hp hk (fun s e => recFacts_of (Bool.and_eq_true_iff.mp e).2) (by rfl) (by first | assumption | decide +kernel) (by decide +kernel) ⟨rfl, rfl, rfl, rfl, rfl, by decide +kernel⟩ ?hw ?hc
  case hw => w_witness2
  case hc => exact walk
end Mine
end

section
open PySem PySem.W PyProof.Rows PySem.Spec PySem.Calls
set_option maxRecDepth 100000
namespace Mine
/-- what a call of a def of the text stands on; `G` tells what is wanted behind it -/
abbrev CallOf (w : World) (mean : ExcName → Option Value) (mg mb : Str → Option Value) (f : Addr) (vs : List Value) (room : Nat) (news : List (Addr × Obj))
    (G : Heap → Addr → (Str → Option Value) → Shared → (Value → Shared → Prop) → Prop) : Prop :=
  ∀ (dp un : Nat) (gd : Option (List Code)) (cn : Str) (cs : Scope) (a : Addr) (ccd : Value) (cl : List (Str × Addr)) (outer : List Env) (A₀ : Around) (base h₀ : Heap) (L : Addr) (m : Str → Option Value) (s : Shared) (Q E : Value → Shared → Prop),
    Below A₀ base outer h₀ → Fr h₀ L s.heap m → (laid.heap_1 w.params).In h₀ → News h₀ L s.heap news → Top hd.view_1 (looseW hd.view_1 [Str.ofString "fraction"]) mean mg mb h₀ → cs.kind = .function →
    dp + room < recursionLimit → un + 8 * room < cLine → G h₀ L m s Q →
    wpAny (model PySem.Challenge.rw_nu0021_01.row.prog w) (ktrTop dp un gd cn cs L a ccd cl outer) (call (.ref f) vs) Q E s
abbrev tupO (vs : List Value) : Obj := { cls := .type "tuple", data := .seq vs.toArray }
/-- what is behind a call that gives back a new tuple of three ints (its colour's parts) -/
abbrev Ret3 (h₀ : Heap) (L : Addr) (m : Str → Option Value) (news : List (Addr × Obj)) (s : Shared) (Q : Value → Shared → Prop) (a b c : Int) : Prop :=
  ∀ (x : Addr) (t1 t2 t3 : Tok) (h' : Heap) (tk' : Nat), Fr h₀ L h' m → News h₀ L h' ((x, tupO [.int a t1, .int b t2, .int c t3]) :: news) → (∀ p ∈ news, p.1 < x) → Q (.ref x) { s with heap := h', toks := tk' }
abbrev Ret4 (h₀ : Heap) (L : Addr) (m : Str → Option Value) (news : List (Addr × Obj)) (s : Shared) (Q : Value → Shared → Prop) (a b c d : Int) : Prop :=
  ∀ (x : Addr) (t1 t2 t3 t4 : Tok) (h' : Heap) (tk' : Nat), Fr h₀ L h' m → News h₀ L h' ((x, tupO [.int a t1, .int b t2, .int c t3, .int d t4]) :: news) → (∀ p ∈ news, p.1 < x) → Q (.ref x) { s with heap := h', toks := tk' }
abbrev Ret2 (h₀ : Heap) (L : Addr) (m : Str → Option Value) (news : List (Addr × Obj)) (s : Shared) (Q : Value → Shared → Prop) (a b : Int) : Prop :=
  ∀ (x : Addr) (t1 t2 : Tok) (h' : Heap) (tk' : Nat), Fr h₀ L h' m → News h₀ L h' ((x, tupO [.int a t1, .int b t2]) :: news) → (∀ p ∈ news, p.1 < x) → Q (.ref x) { s with heap := h', toks := tk' }
/-- a reader's two fields: its text, its place -/
abbrev numD (P : Params) (x : Str) (i : Int) (tA tx tB ti : Tok) (n : Nat) : Obj :=
  dictOf [⟨PyData.keyHash P (Str.ofString "text"), .str (Str.ofString "text") tA, .str x tx⟩, ⟨PyData.keyHash P (Str.ofString "at"), .str (Str.ofString "at") tB, .int i ti⟩] n
/-- a part times an alpha, and told back -/
noncomputable def mul8 (n al : Int) : Int := (2 * n * al + 255) / 510
noncomputable def unmul (n al : Int) : Int := if al = 0 then 0 else (2 * n * 255 + al) / (2 * al)
/-- the sign of a hex digit -/
noncomputable def upDigit (n : Int) : Nat := if n < 10 then 48 + n.toNat else 55 + n.toNat
noncomputable def loDigit (n : Int) : Nat := if n < 10 then 48 + n.toNat else 87 + n.toNat
theorem mulR {a b : Int} (h : -9223372036854775808 < b ∧ b < 9223372036854775808) : IntMulOk a b := by
  refine IntMulOk.of_right ?_
  have : b.natAbs < 2 ^ 64 := by omega
  simp only [Builtin.Int.intBits]
  split
  · omega
  · have h1 : b.natAbs ≠ 0 := by rename_i h; intro hh; simp_all
    have := (Nat.log2_lt h1).mpr this
    omega
theorem fm (a k : Int) (h : 0 < k) : Int.fmod a k = a % k := Int.fmod_eq_emod_of_nonneg a (by omega)
theorem fd (a k : Int) (h : 0 < k) : Int.fdiv a k = a / k := Int.fdiv_eq_ediv_of_nonneg a (by omega)
theorem two_ne {a : Int} (h : a ≠ 0) : 2 * a ≠ 0 := by omega
end Mine
end

section
open PySem PySem.W PyProof.Rows PySem.Spec PySem.Calls
set_option maxRecDepth 100000
namespace Mine
/-- the ledger bears a tuple of these items -/
def TupIn (ax : Addr) (its : Array Value) (news : List (Addr × Obj)) : Prop := ∃ o, (ax, o) ∈ news ∧ o.cls = .type "tuple" ∧ ∃ n, o.data = .seq its n
section
variable {prog : Program} {w : World} {A : Around} {E : Value → Shared → Prop} {s : Shared} {h₀ : Heap} {L : Addr} {m : Str → Option Value} {env : Env}
/-- what a comprehension's source may be here: a tuple of the ledger, or a text -/
def MySrc (prog : Program) (w : World) (A : Around) (h₀ : Heap) (L : Addr) (m : Str → Option Value) (env : Env) (elt : Expr) (x : Str) (scope : Scope) (cl : List (Str × Addr)) (Fin : Shared → List Value → List (Addr × Obj) → Prop) (xv : Value) (s₁ : Shared) : Prop :=
  (∃ ax its news, xv = .ref ax ∧ A.handled = none ∧ Fr h₀ L s₁.heap m ∧ News h₀ L s₁.heap news ∧ TupIn ax its news ∧ its.size ≤ sizeLine ∧
    ∀ s₂ : Shared, (∃ h, s₂ = { s₁ with heap := h }) → LCg.CompRest prog w A h₀ L m env elt x scope cl s₂ (TupIn ax its) (fun i v => its[i]? = some v) (Fin s₂) its.size 0 [] news) ∨
  (∃ tx t news, xv = .str tx t ∧ A.handled = none ∧ Fr h₀ L s₁.heap m ∧ News h₀ L s₁.heap news ∧ tx.cps.size ≤ sizeLine ∧
    ∀ s₂ : Shared, (∃ h, s₂ = { s₁ with heap := h }) → LCg.CompRest prog w A h₀ L m env elt x scope cl s₂ (fun _ => True) (SignAt tx) (Fin s₂) tx.cps.size 0 [] news)
theorem MySrc.tup {elt : Expr} {x : Str} {scope : Scope} {cl : List (Str × Addr)} {Fin : Shared → List Value → List (Addr × Obj) → Prop} {ax : Addr} {its : Array Value} {k : Nat} {news : List (Addr × Obj)} {s₁ : Shared}
    (hh : A.handled = none) (F : Fr h₀ L s₁.heap m) (N : News h₀ L s₁.heap news) (hm : (ax, ({ cls := .type "tuple", data := .seq its k } : Obj)) ∈ news) (hsz : its.size ≤ sizeLine)
    (h : ∀ g, LCg.CompRest prog w A h₀ L m env elt x scope cl { s₁ with heap := g } (TupIn ax its) (fun i v => its[i]? = some v) (Fin { s₁ with heap := g }) its.size 0 [] news) :
    MySrc prog w A h₀ L m env elt x scope cl Fin (.ref ax) s₁ := .inl ⟨ax, its, news, rfl, hh, F, N, ⟨_, hm, rfl, _, rfl⟩, hsz, fun _ ⟨g, e⟩ => e ▸ h g⟩
theorem MySrc.text {elt : Expr} {x : Str} {scope : Scope} {cl : List (Str × Addr)} {Fin : Shared → List Value → List (Addr × Obj) → Prop} {tx : Str} {t : Tok} {news : List (Addr × Obj)} {s₁ : Shared}
    (hh : A.handled = none) (F : Fr h₀ L s₁.heap m) (N : News h₀ L s₁.heap news) (hsz : tx.cps.size ≤ sizeLine)
    (h : ∀ g, LCg.CompRest prog w A h₀ L m env elt x scope cl { s₁ with heap := g } (fun _ => True) (SignAt tx) (Fin { s₁ with heap := g }) tx.cps.size 0 [] news) :
    MySrc prog w A h₀ L m env elt x scope cl Fin (.str tx t) s₁ := .inr ⟨tx, t, news, rfl, hh, F, N, hsz, fun _ ⟨g, e⟩ => e ▸ h g⟩
theorem tup_st {ax I : Addr} {its : Array Value} (i : Nat) (h h' : Heap) (o : Obj) (nw : List (Addr × Obj)) (st : h.IsTupleIter I ax i ∧ h.IsTuple ax its) (e : h.get? I = some o) (e' : h'.get? I = some o) (_k : ∀ b o, h₀.get? b = some o → h'.get? b = some o) (N : News h₀ L h' nw) (S : TupIn ax its nw) : h'.IsTupleIter I ax i ∧ h'.IsTuple ax its := by
  refine ⟨?_, ?_⟩
  · obtain ⟨o', q, r⟩ := st.1
    rw [e] at q; cases q
    exact ⟨o, e', r⟩
  · obtain ⟨o', hm, hc, n, hd⟩ := S
    exact ⟨o', N.get hm, hc, n, hd⟩
theorem str_st {I : Addr} {ty : String} {tx : Str} {t : Tok} (i : Nat) (h h' : Heap) (o : Obj) (_nw : List (Addr × Obj)) (st : h.IsStrIter I ty tx t i) (e : h.get? I = some o) (e' : h'.get? I = some o) : h'.IsStrIter I ty tx t i := by
  obtain ⟨o', q, r⟩ := st
  rw [e] at q; cases q
  exact ⟨o, e', r⟩
theorem ListComp_M {elt iter : Expr} {x : Str} {px : Pos} {scope : Scope} {cl : List (Str × Addr)} {pos : Pos} {Q : Value → Shared → Prop} (_F₀ : Fr h₀ L s.heap m)
    (hclos : closureFor scope env = pure cl) (hcell : ∀ y ∈ scope.names, y.2 ≠ .cell) (hkind : scope.kind = .function)
    (hnames : ∀ y ∈ scope.names, y.2 = .local → scope.names.lookup y.1 = some .local) (hx : scope.names.lookup x = some .local)
    (h : wpAny (model prog w) A (eval iter env) (MySrc prog w A h₀ L m env elt x scope cl (fun s₂ => LCg.FinE h₀ L m s₂ Q)) E s)
    (hs : ∀ x, foldedSetIterable iter env x = pure x := by intro _; rfl) :
    wpAny (model prog w) A (eval (.ListComp elt [⟨.Name x px, iter, [], 0⟩] scope pos) env) Q E s := by
  rw [eval_ListComp]
  refine wpAny_comprehension_free (use := none) rfl hs hclos hkind hnames (wpAny_mono h (fun xv s₁ h₁ => ?_) fun _ _ e => e)
  have fin : ∀ {s₂ : Shared} (D C : Addr) (h : Heap) (tk : Nat) (m' : Str → Option Value) (ys : List Value) (news' : List (Addr × Obj)), Fr h₀ L h m → News h₀ L h ((D, LCg.lst ys) :: news') → LCg.Off1 D news' → h.Ns C m' → h₀.get? C = none → C ≠ L → C ≠ D → (∀ p ∈ news', p.1 ≠ C) → LCg.FinE h₀ L m s₂ Q ys news' →
      ∃ m'', h.Ns C m'' ∧ ∀ h'', Heap.SameBut C h h'' → Q (.ref D) { s₂ with heap := h'', toks := tk } := by
    intro s₂ D C h tk m' ys news' F' N' o1 hn hC₀ hCL hCD offC fin
    refine ⟨m', hn, fun h'' hs'' => fin D h'' tk (F'.change hs'' hCL hC₀) (fun p hp => ?_) o1⟩
    refine ⟨hs''.extBut _ _ ?_ (N' p hp).1, (N' p hp).2⟩
    rcases List.mem_cons.mp hp with rfl | hp
    · exact Ne.symm hCD
    · exact offC p hp
  rcases h₁ with ⟨ax, its, news, rfl, hh, F, N, S, hsz, R⟩ | ⟨tx, t, news, rfl, hh, F, N, hsz, R⟩
  · have hl : s₁.heap.IsTuple ax its := by
      obtain ⟨o', hm, hc, n, hd⟩ := S
      exact ⟨o', N.get hm, hc, n, hd⟩
    have hlt : ax < s₁.heap.objs.size := by obtain ⟨_, e, _⟩ := hl; exact Heap.lt_size e
    refine wpAny_pyIter_tuple hl ?_
    have up : ∀ b o, s₁.heap.get? b = some o → (s₁.heap.push { cls := .type "tuple_iterator", data := .fields #[.ref ax, .int 0 0] }).get? b = some o := fun b o e => Heap.get?_push_of_some _ e
    refine LCg.block_U (Walks.tuple hh s₁.heap.objs.size ax (Nat.ne_of_lt hlt) its) hsz (fun i h st => by obtain ⟨o, e, _⟩ := st.1; exact ⟨o, e⟩) tup_st hcell hkind hx ⟨⟨_, Heap.get?_push_size _ rfl, rfl, rfl⟩, ?_⟩ (fun b hb => ?_)
      (F.keeps up) (N.grown up) (Nat.ne_of_lt F.ns.lt) (next_is_new F) (fun p hp => Nat.ne_of_lt (Heap.lt_size (N p hp).1)) S (R _ ⟨_, rfl⟩) ?_
    · obtain ⟨o', e, r⟩ := hl
      exact ⟨o', up _ _ e, r⟩
    · show b < (s₁.heap.push _).objs.size
      rw [Heap.size_push]
      rcases List.mem_cons.mp hb with rfl | hb
      · exact Nat.lt_succ_self _
      · rw [List.mem_singleton.mp hb]; exact Nat.lt_succ_of_lt hlt
    · intro D C h tk m' ys news' F' N' o1 hn hC₀ hD₀ hCL hDL hCD offC f
      exact fin D C h tk m' ys news' F' N' o1 hn hC₀ hCL hCD offC f
  · have up : ∀ (ob : Obj) b o, s₁.heap.get? b = some o → (s₁.heap.push ob).get? b = some o := fun ob b o e => Heap.get?_push_of_some _ e
    have inn : ∀ (ob : Obj) b, b ∈ [s₁.heap.objs.size] → b < (s₁.heap.push ob).objs.size := fun ob b hb => by
      rw [List.mem_singleton.mp hb, Heap.size_push]; exact Nat.lt_succ_self _
    cases ha : tx.cps.all (· < 128)
    · refine wpAny_pyIter_wide ha ?_
      refine LCg.block_U (Walks.strWide hh s₁.heap.objs.size tx t) hsz (fun i h st => by obtain ⟨o, e, _⟩ := st; exact ⟨o, e⟩) (fun i h h' o nw st e e' _ _ _ => str_st i h h' o nw st e e') hcell hkind hx ⟨_, Heap.get?_push_size _ rfl, rfl, rfl⟩ (inn _)
        (F.keeps (up _)) (N.grown (up _)) (Nat.ne_of_lt F.ns.lt) (next_is_new F) (fun p hp => Nat.ne_of_lt (Heap.lt_size (N p hp).1)) trivial (R _ ⟨_, rfl⟩) ?_
      intro D C h tk m' ys news' F' N' o1 hn hC₀ hD₀ hCL hDL hCD offC f
      exact fin D C h tk m' ys news' F' N' o1 hn hC₀ hCL hCD offC f
    · refine wpAny_pyIter_ascii ha ?_
      refine LCg.block_U (Walks.strAscii hh s₁.heap.objs.size tx t) hsz (fun i h st => by obtain ⟨o, e, _⟩ := st; exact ⟨o, e⟩) (fun i h h' o nw st e e' _ _ _ => str_st i h h' o nw st e e') hcell hkind hx ⟨_, Heap.get?_push_size _ rfl, rfl, rfl⟩ (inn _)
        (F.keeps (up _)) (N.grown (up _)) (Nat.ne_of_lt F.ns.lt) (next_is_new F) (fun p hp => Nat.ne_of_lt (Heap.lt_size (N p hp).1)) trivial (R _ ⟨_, rfl⟩) ?_
      intro D C h tk m' ys news' F' N' o1 hn hC₀ hD₀ hCL hDL hCD offC f
      exact fin D C h tk m' ys news' F' N' o1 hn hC₀ hCL hCD offC f
end
section
variable {prog : Program} {w : World} {A₀ A : Around} {s : Shared} {base h₀ : Heap} {outer : List Env} {L : Addr} {m : Str → Option Value} {env : Env} {args keep : List (Addr × Obj)} {K : Frag}
  {R : Result → Shared → Prop} {name qual : Str} {params : Arguments} {body : List Stmt} {scope : Scope} {dV kV doc pm cdv ct oc : Value} {an od : Option Addr} {osl : Array (Option Value)} {f : Addr} {as : Args} {binds : List (Str × Value)}
  {p : Program} {loose : List Str} {mean : ExcName → Option Value} {mg mb : Str → Option Value}
/-- the end of a def that was entered with a part of the ledger alone: what was left aside stands -/
def LeaveX (h₀ : Heap) (L : Addr) (m : Str → Option Value) (g : Heap) (args keep : List (Addr × Obj)) (R : Result → Shared → Prop) (v : Value) (s' : Shared) : Prop :=
  ∃ L' m' news', Fr g L' s'.heap m' ∧ News g L' s'.heap news' ∧ (∀ p ∈ keep, p.1 ∉ args.map (·.1) ∨ p ∈ news') ∧ (Fr h₀ L s'.heap m → News h₀ L s'.heap (news' ++ keep) → R (.ok (.ret v)) s')
theorem leaveX_ {g : Heap} {L' : Addr} {m' : Str → Option Value} {news' : List (Addr × Obj)} {v : Value} {s' : Shared} (F' : Fr g L' s'.heap m') (N' : News g L' s'.heap news') (hk : ∀ p ∈ keep, p.1 ∉ args.map (·.1) ∨ p ∈ news')
    (k : Fr h₀ L s'.heap m → News h₀ L s'.heap (news' ++ keep) → R (.ok (.ret v)) s') : LeaveX h₀ L m g args keep R v s' := ⟨L', m', news', F', N', hk, k⟩
theorem leaveX_K {v : Value} {s' : Shared} (Nk : News h₀ L s.heap keep) (l : LeaveX h₀ L m (hideAll s.heap (args.map (·.1))) args keep R v s') : LeaveK h₀ L m (hideAll s.heap (args.map (·.1))) R v s' := by
  obtain ⟨L', m', news', F', N', hk, k⟩ := l
  refine ⟨L', m', news', F', N', fun F N => k F fun p hp => ?_⟩
  rcases List.mem_append.mp hp with hp | hp
  · exact N p hp
  · rcases hk p hp with q | q
    · exact ⟨F'.keep _ _ (hideAll_get _ (Nk p hp).1 q), (Nk p hp).2⟩
    · exact N p q
theorem few_plain (B : Below A₀ base outer h₀) (F : Fr h₀ L s.heap m) (Nk : News h₀ L s.heap keep) (N : News h₀ L s.heap args) (X₀ : K.In h₀) (T : Top p loose mean mg mb h₀) (hA : A.frames = some (env :: outer)) (hf : env.frame = some L) (hke : env.scope.kind = .function)
    (ho : K.lookup f = some ⟨oc, od, .func (fnOf name qual params body scope dV kV doc pm an cdv ct), osl⟩) (hcd : codeIn K cdv qual = true) (hroom : A.depth < recursionLimit)
    (hbind : BindsTo s (fnOf name qual params body scope dV kV doc pm an cdv ct) as binds) (hloc : ∀ y ∈ binds, scope.names.lookup y.1 = some .local)
    (h : ∀ g L' h₁, Fr h₀ L g m → Fr g L' h₁ (fun y => binds.reverse.lookup y) → News g L' h₁ args → Below A base (env :: outer) g → K.In g → Top p loose mean mg mb g → (∀ p ∈ args, p.1 < L') →
      wpAny (model prog w) (A.deeper (envOf qual scope L' f cdv)) (execs body (envOf qual scope L' f cdv))
        (fun fl s' => LeaveX h₀ L m g args keep R (match fl with | .ret v => v | _ => .none) s')
        (fun e s' => wpAny (model prog w) (A.deeper (envOf qual scope L' f cdv)) (leaving (envOf qual scope L' f cdv) e) (fun _ s'' => R (.error e) s'') (fun e' s'' => R (.error e') s'') s')
        { s with heap := h₁, toks := s.toks + binds.length })
    (hco : scope.isCoroutine = false) (hgen : scope.isGenerator = false) (hk : scope.kind = .function)
    (hcell : ∀ x ∈ scope.names, x.2 ≠ .cell) : codeAny (model prog w) A (.call (.ref f) as) R s := by
  obtain ⟨FG, BG, st, lv⟩ := groundX (R := R) B F N hA hf hke
  refine codeAny_call_def (fd := fnOf name qual params body scope dV kV doc pm an cdv ct) (body := body) (binds := binds) hroom ((X₀.keeps F.keep) _ _ ho) rfl (T.nolimit.keeps F.keep) (codeRec_of (X₀.keeps F.keep) hcd) rfl hbind hcell hloc (fun h₁ hns hk₁ => ?_) hco hgen hk
  refine wpAny_mono (h _ s.heap.objs.size h₁ FG ⟨hns, fun b o e => hk₁ b o (of_hideAll _ e), Nat.le_of_eq (hideAll_size _ _)⟩ (fun p hp => ?_) BG (X₀.keeps st) (T.keeps st) fun p hp => Heap.lt_size (N p hp).1) (fun fl s' hl => lv _ _ (leaveX_K Nk hl)) fun _ _ y => y
  exact ⟨hk₁ _ _ (N p hp).1, Nat.ne_of_lt (Heap.lt_size (N p hp).1), hideAll_none _ (List.mem_map_of_mem hp)⟩
theorem few_cells (B : Below A₀ base outer h₀) (F : Fr h₀ L s.heap m) (Nk : News h₀ L s.heap keep) (N : News h₀ L s.heap args) (X₀ : K.In h₀) (T : Top p loose mean mg mb h₀) (hA : A.frames = some (env :: outer)) (hf : env.frame = some L) (hke : env.scope.kind = .function)
    (ho : K.lookup f = some ⟨oc, od, .func (fnOf name qual params body scope dV kV doc pm an cdv ct), osl⟩) (hcd : codeIn K cdv qual = true) (hroom : A.depth < recursionLimit)
    (hbind : BindsTo s (fnOf name qual params body scope dV kV doc pm an cdv ct) as binds) (hkind : (binds.all fun y => scope.names.lookup y.1 == some .local || scope.names.lookup y.1 == some .cell) = true)
    (hnd : ((cellsFrom 0 scope.names []).map (·.1)).Nodup)
    (h : ∀ g L' h₁ tk cells, Fr h₀ L g m → Fr g L' h₁ (bindL (envOfC qual scope L' f cdv).kindOf binds fun _ => none) → News g L' h₁ (cells ++ args) →
      CellsAre (bindC (envOfC qual scope L' f cdv).kindOf binds fun _ => none) (cellsFrom (L' + 1) scope.names []) cells → Below A base (env :: outer) g → K.In g → Top p loose mean mg mb g → (∀ p ∈ args, p.1 < L') →
      wpAny (model prog w) (A.deeper (envOfC qual scope L' f cdv)) (execs body (envOfC qual scope L' f cdv))
        (fun fl s' => LeaveX h₀ L m g args keep R (match fl with | .ret v => v | _ => .none) s')
        (fun e s' => wpAny (model prog w) (A.deeper (envOfC qual scope L' f cdv)) (leaving (envOfC qual scope L' f cdv) e) (fun _ s'' => R (.error e) s'') (fun e' s'' => R (.error e') s'') s')
        { s with heap := h₁, toks := tk })
    (hco : scope.isCoroutine = false) (hgen : scope.isGenerator = false) (hk : scope.kind = .function) : codeAny (model prog w) A (.call (.ref f) as) R s := by
  obtain ⟨FG, BG, st, lv⟩ := groundX (R := R) B F N hA hf hke
  refine codeAny_call_function hroom ((X₀.keeps F.keep) _ _ ho) rfl hco hgen rfl (codeRec_of (X₀.keeps F.keep) hcd) (hbind _ _ _ _ ?_)
  refine wpAny_newFunctionEnv_cells hk (kindsX hkind _) fun env' he s' x => ?_
  subst he
  refine ⟨(T.nolimit.keeps F.keep).keeps x.toInCall.keep, codeAny_func ?_⟩
  obtain ⟨h₁, tk, rfl, _⟩ := x.done
  have hk₁ := x.toInCall.keep
  obtain ⟨cells, NC, Y⟩ := Cl.news (h₀ := s.heap) (Nat.le_refl _) fun n c hm => ⟨x.cell n c (lookup_of_mem_nodup (cellsFrom_names scope.names 0 (s.heap.objs.size + 1) [] [] rfl ▸ hnd) hm), x.above n c hm⟩
  refine wpAny_mono (h _ s.heap.objs.size h₁ tk cells FG ⟨x.toInCall.ns, fun b o e => hk₁ b o (of_hideAll _ e), Nat.le_of_eq (hideAll_size _ _)⟩ (fun p hp => ?_) Y BG (X₀.keeps st) (T.keeps st) (fun p hp => Heap.lt_size (N p hp).1)) (fun fl s' hl => lv _ _ (leaveX_K Nk hl)) fun _ _ y => y
  rcases List.mem_append.mp hp with hp | hp
  · refine ⟨(NC p hp).1, (NC p hp).2.1, ?_⟩
    cases q : (hideAll s.heap (args.map (·.1))).get? p.1 with
    | none => rfl
    | some o => have := of_hideAll _ q; rw [(NC p hp).2.2] at this; cases this
  · exact ⟨hk₁ _ _ (N p hp).1, Nat.ne_of_lt (Heap.lt_size (N p hp).1), hideAll_none _ (List.mem_map_of_mem hp)⟩
/-- three addresses apart (a word that the arithmetic does not open) -/
def Apart3 (I C D : Nat) : Prop := I ≠ C ∧ I ≠ D ∧ C ≠ D
theorem apart3 {I C D : Addr} (h : (@Ne Nat I C) ∧ (@Ne Nat I D) ∧ (@Ne Nat C D)) : Apart3 I C D := h
theorem Apart3.ic {I C D : Nat} (h : Apart3 I C D) : @Ne Nat I C := h.1
theorem Apart3.id {I C D : Nat} (h : Apart3 I C D) : @Ne Nat I D := h.2.1
theorem Apart3.cd {I C D : Nat} (h : Apart3 I C D) : @Ne Nat C D := h.2.2
theorem off3_i {I C D a : Addr} {o : Obj} {l : List (Addr × Obj)} (h : LCg.Off3 I C D l) (m : (a, o) ∈ l) : @Ne Nat a I := (h.mem _ m).1
theorem off3_c {I C D a : Addr} {o : Obj} {l : List (Addr × Obj)} (h : LCg.Off3 I C D l) (m : (a, o) ∈ l) : @Ne Nat a C := (h.mem _ m).2.1
theorem off3_d {I C D a : Addr} {o : Obj} {l : List (Addr × Obj)} (h : LCg.Off3 I C D l) (m : (a, o) ∈ l) : @Ne Nat a D := (h.mem _ m).2.2
theorem off1_d {D a : Addr} {o : Obj} : ∀ {l : List (Addr × Obj)}, LCg.Off1 D l → (a, o) ∈ l → @Ne Nat a D
  | p :: r, h, m => by
    rcases List.mem_cons.mp m with rfl | m
    · exact h.1
    · exact off1_d (l := r) h.2 m
theorem ro_keep {h₀ h : Heap} {L : Addr} {args keep news' : List (Addr × Obj)} (Nk : News h₀ L h keep) (N : News h₀ L h args) (hs : ∀ q ∈ args, q ∈ news') : ∀ p ∈ keep, p.1 ∉ args.map (·.1) ∨ p ∈ news' := by
  intro p hp
  by_cases hm : p.1 ∈ args.map (·.1)
  · right
    obtain ⟨q, hq, e⟩ := List.mem_map.mp hm
    have h1 := (N q hq).1
    have h2 := (Nk p hp).1
    rw [e, h2] at h1
    have : p = q := Prod.ext e.symm (Option.some.inj h1)
    rw [this]
    exact hs q hq
  · exact .inl hm
theorem mut_keep {args keep news' : List (Addr × Obj)} (h : ∀ p ∈ keep, ∀ q ∈ args, p.1 ≠ q.1) : ∀ p ∈ keep, p.1 ∉ args.map (·.1) ∨ p ∈ news' := by
  intro p hp
  refine .inl fun hm => ?_
  obtain ⟨q, hq, e⟩ := List.mem_map.mp hm
  exact h p hp q hq e.symm
theorem below_all {args keep : List (Addr × Obj)} {D : Addr} (h : ∀ p ∈ args ++ keep, p.1 < D) : ∀ p ∈ keep, p.1 < D := fun p hp => h p (List.mem_append_right _ hp)
/-- as CallOf; `args` is the part of the ledger that the def sees, `keep` what stands -/
abbrev CallX (w : World) (mean : ExcName → Option Value) (mg mb : Str → Option Value) (f : Addr) (vs : List Value) (room : Nat) (args keep : List (Addr × Obj))
    (G : Heap → Addr → (Str → Option Value) → Shared → (Value → Shared → Prop) → Prop) : Prop :=
  ∀ (dp un : Nat) (gd : Option (List Code)) (cn : Str) (cs : Scope) (a : Addr) (ccd : Value) (cl : List (Str × Addr)) (outer : List Env) (A₀ : Around) (base h₀ : Heap) (L : Addr) (m : Str → Option Value) (s : Shared) (Q E : Value → Shared → Prop),
    Below A₀ base outer h₀ → Fr h₀ L s.heap m → (laid.heap_1 w.params).In h₀ → News h₀ L s.heap args → Top hd.view_1 (looseW hd.view_1 [Str.ofString "fraction"]) mean mg mb h₀ → News h₀ L s.heap keep → cs.kind = .function →
    dp + room < recursionLimit → un + 8 * room < cLine → G h₀ L m s Q →
    wpAny (model PySem.Challenge.rw_nu0021_01.row.prog w) (ktrTop dp un gd cn cs L a ccd cl outer) (call (.ref f) vs) Q E s
end
end Mine
end

section
open PySem PySem.W PyProof.Rows PySem.Spec PySem.Calls
set_option maxRecDepth 100000
namespace Mine
section
variable {prog : Program} {w : World} {A : Around} {E : Value → Shared → Prop} {s : Shared} {h₀ : Heap} {L : Addr} {m : Str → Option Value} {news : List (Addr × Obj)}
theorem applied3 {sl : Addr} {u : Tok} {Q : Int × Int × Nat → Shared → Prop} (hs : s.heap.IsSliceOf sl .none (.int 3 u) .none) (h : Q (0, 1, 3) s) :
    wpAny (model prog w) A (Builtin.Slice.sliceApplied (.ref sl) (pure (4 : Int))) Q E s := by
  obtain ⟨os, hos, hcs, hds⟩ := id hs
  unfold Builtin.Slice.sliceApplied Builtin.Slice.sliceFields
  refine wpAny_bind (wpAny_bind (wpAny_field hos hds (x := .none) rfl (wpAny_bind (wpAny_field hos hds (x := .int 3 u) rfl (wpAny_bind (wpAny_field hos hds (x := .none) rfl (wpAny_pure ?_)))))))
  refine wpAny_bind (slicePart_none ?_)
  show wpAny _ _ (if ((1 : Int) == 0) = true then _ else _) _ _ s
  rw [if_neg (by decide)]
  refine wpAny_bind (slicePart_none (wpAny_bind (slicePart_int (wpAny_bind (wpAny_pure ?_)))))
  exact wpAny_pure h
theorem getItem3 {t sl : Addr} {v0 v1 v2 v3 : Value} {u : Tok} {Q : Value → Shared → Prop} (ht : IsTup s.heap t [v0, v1, v2, v3].toArray) (hs : s.heap.IsSliceOf sl .none (.int 3 u) .none)
    (h : Q (.ref s.heap.objs.size) { s with heap := s.heap.push (tupO [v0, v1, v2]) }) : wpAny (model prog w) A (getItem (.ref t) (.ref sl)) Q E s := by
  obtain ⟨os, hos, hcs, hds⟩ := id hs
  have hTs : s.TypeIs (.ref sl) "slice" := ⟨os, hos, hcs⟩
  unfold getItem
  try with_reducible refine wpAny_holding ?_
  first | refine wpAny_bind (wpAny_pure ?_) | skip
  refine wpAny_bind (wpAny_sequenceKey ht.typeIs (by decide) ?_)
  refine wpAny_bind (wpAny_callSpecial?_slot (name := Str.ofString "__getitem__") ht.typeIs slot_tuple_getitem
    (wpAny_call_entry slot_tuple_getitem ht.typeIs entry_tuple_getitem ?_ (args_tuple_getitem _ _)))
  show wpAny _ _ (Builtin.Tuple.tupleItemsOf (.ref t) >>= _) _ _ s
  refine wpAny_bind (tupleItemsOf_ ht ?_)
  refine wpAny_bind (wpAny_typeOf hTs ?_)
  rw [if_pos (by decide)]
  refine wpAny_bind (applied3 hs ?_)
  show wpAny _ _ (if ((0 : Int) == 0 && (1 : Int) == 1 && (3 == ([v0, v1, v2, v3].toArray).size)) = true then _ else _) _ _ s
  rw [if_neg (by simp)]
  have hsz : sizeOk (.seq [v0, v1, v2].toArray) := by show (3 : Nat) ≤ sizeLine; rw [sizeLine_eq]; omega
  first
    | exact wpAny_bind (m := Builtin.Tuple.tupleExact _) (wpAny_newObj_type (wpAny_pure ⟨_, rfl, wpAny_pure h⟩) hsz)
    | exact wpAny_bind (m := Builtin.Tuple.tupleExact _) (wpAny_newObj_type (wpAny_bind (wpAny_pure (wpAny_pure ⟨_, rfl, wpAny_pure h⟩))) hsz)
    | exact wpAny_bind (wpAny_bind (m := Builtin.Tuple.tupleExact _) (wpAny_newObj_type (wpAny_pure (wpAny_pure ⟨_, rfl, wpAny_pure h⟩)) hsz))
    | exact wpAny_bind (wpAny_bind (m := Builtin.Tuple.tupleExact _) (wpAny_newObj_type (wpAny_pure ⟨_, rfl, wpAny_pure h⟩) hsz))
theorem item_of {value slice : PySem.Expr} {l : Addr} {vs : List Value} {k : Int} {u : Tok} {Q : Value → Shared → Prop}
    (hl : s.heap.IsList l vs.toArray) (h0 : 0 ≤ k) (h1 : k < vs.length) (hb : vs.length ≤ 10000) (h : ∀ v, v ∈ vs → vs[k.toNat]? = some v → Q v s)
    (hs : subscripted slice false (.ref l) (.int k u) = operate [.ref l, .int k u] (getItem (.ref l) (.int k u)) := by with_unfolding_all rfl) :
    wpAny (model prog w) A (subscriptTail value slice (.ref l) (.int k u)) Q E s := by
  have hlt : k.toNat < vs.length := by omega
  have hx : vs[k.toNat]? = some vs[k.toNat] := List.getElem?_eq_getElem hlt
  exact tail_any hl.typeIs slot_list_getitem.lookup (wpAny_getItem_list hl h0 (by omega) (by simpa using hx) (h _ (List.getElem_mem hlt) hx)) hs
theorem slice3 {value slice : PySem.Expr} {t : Addr} {v0 v1 v2 v3 : Value} {u : Tok} {Q : Value → Shared → Prop}
    (F : Fr h₀ L s.heap m) (N : News h₀ L s.heap news) (ht : IsTup s.heap t [v0, v1, v2, v3].toArray)
    (h : ∀ D h', Fr h₀ L h' m → News h₀ L h' ((D, tupO [v0, v1, v2]) :: news) → (∀ p ∈ news, p.1 < D) → Q (.ref D) { s with heap := h' })
    (hs : subscripted slice false (.ref t) (.ref s.heap.objs.size) = operate [.ref s.heap.objs.size, .ref t] (getItem (.ref t) (.ref s.heap.objs.size)))
    (hg : ∀ r, letTemporaryGo value (.ref t) r = pure ()) :
    wpAny (model prog w) A (subscriptTail value slice (.ref t) (.ref s.heap.objs.size)) Q E { s with heap := s.heap.push { cls := .type "slice", data := .fields #[.none, .int 3 u, .none] } } := by
  have ht' : IsTup (s.heap.push { cls := .type "slice", data := .fields #[.none, .int 3 u, .none] }) t [v0, v1, v2, v3].toArray := ht.keeps fun _ _ e => Heap.get?_push_of_some _ e
  refine subscriptTail_ops (s := { s with heap := s.heap.push { cls := .type "slice", data := .fields #[.none, .int 3 u, .none] } }) ht'.typeIs slot_tuple_getitem.lookup
    (getItem3 ht' (Heap.IsSliceOf.new ..) ?_) hs hg
  have N1 := News.push (F.push { cls := .type "slice", data := .fields #[.none, .int 3 u, .none] }) (N.grown fun _ _ e => Heap.get?_push_of_some _ e) (tupO [v0, v1, v2])
  refine h _ _ ((F.push _).push _) N1 fun p hp => ?_
  rw [Heap.size_push]
  exact Nat.lt_succ_of_lt (Heap.lt_size (N p hp).1)
end
end Mine
end

section
open PySem PySem.W PyProof.Rows PySem.Spec PySem.Calls
set_option maxRecDepth 100000
namespace Mine
section
variable {prog : Program} {w : World} {A : Around} {E : Value → Shared → Prop} {s : Shared} {env : Env} {h₀ : Heap} {x : Str} {body : List Stmt} {Q : Flow → Shared → Prop} {m₀ : Str → Option Value} {news : List (Addr × Obj)}
/-- a for over a text's signs, by what holds of the frame's names -/
theorem str_inv {tx : Str} {t : Tok} (J : Nat → (Str → Option Value) → Prop) (hh : A.handled = none) (F : Fr h₀ env.locals s.heap m₀) (N : News h₀ env.locals s.heap news) (hj : J 0 m₀)
    (turn : ∀ i c u m₁ h tk own, tx.cps[i]? = some c → J i m₁ → Fr h₀ env.locals h (fun y => if y = x then some (.str ⟨#[c]⟩ u) else m₁ y) → News h₀ env.locals h (own ++ news) →
      wpAny (model prog w) A (execs body env) (InvPost h₀ env.locals (J (i + 1)) (own ++ news) { s with heap := h, toks := tk } Q) E { s with heap := h, toks := tk })
    (done : ∀ m₁ h tk, J tx.cps.size m₁ → Fr h₀ env.locals h m₁ → News h₀ env.locals h news → Q .next { s with heap := h, toks := tk }) :
    wpAny (model prog w) A (pyIter (.str tx t)) (fun it s₂ => LoopAtV prog w A h₀ env x body Q E it s₂) E s := by
  refine wpAny_pyIter_str fun o St WA st0 => ?_
  have W := WA A hh
  let J' : Nat → (Str → Option Value) → List (Addr × Obj) → Prop := fun i m₁ news₁ => news₁ = news ∧ J i m₁
  refine ⟨_, _, _, tx.cps.size, _, _, m₀, news, J', rfl, W, ?_, ?_, ?_, st0, F.push _, (fun p hp => ⟨Heap.get?_push_of_some _ (N p hp).1, (N p hp).2⟩), ⟨rfl, hj⟩, ?_, ?_⟩
  · intro hm
    exact absurd F.ns.lt ((List.mem_singleton.mp hm) ▸ Nat.lt_irrefl _)
  · intro b hb
    rw [List.mem_singleton.mp hb]
    exact next_is_new F
  · intro p hp hI
    exact absurd (Heap.lt_size (N p hp).1) ((List.mem_singleton.mp hI) ▸ Nat.lt_irrefl _)
  · rintro i v m₁ news₁ s₁ own ⟨hh', tk', rfl⟩ hin ⟨c, u, hc, rfl⟩ ⟨rfl, hJ⟩ hoff _ _ _ _ F₁ N₁
    refine wpAny_mono (turn i c u m₁ hh' tk' own hc hJ F₁ N₁) (fun f s₂ p => ?_) fun _ _ e => e
    have fin : InvEnd h₀ env.locals (J (i + 1)) (own ++ news₁) { s with heap := hh', toks := tk' } s₂ → LoopStepU h₀ env.locals [s.heap.objs.size] own (J' (i + 1)) { s with heap := hh', toks := tk' } .next s₂ := by
      rintro ⟨h', tk, m', news', e, F', N', hn, hm⟩
      exact ⟨rfl, h', tk, m', news₁, e, F', fun p hp => N' p (hn p hp), hoff, rfl, hm⟩
    cases f with
    | ret v => exact .ret p
    | brk => exact .brk p
    | next => exact .next (fin p)
    | cont => exact .cont (fin p)
  · rintro h' tk m' news' F' N' _ ⟨rfl, hJ⟩
    exact done m' h' tk hJ F' N'
theorem news_rot1 {h₀ h : Heap} {L : Addr} {q a b : Addr × Obj} {r : List (Addr × Obj)} (N : News h₀ L h (q :: a :: b :: r)) : News h₀ L h (a :: b :: q :: r) := fun p hp => N p (by
  simp only [List.mem_cons] at hp ⊢
  rcases hp with h | h | h | h <;> simp [h])
theorem news_rot2 {h₀ h : Heap} {L : Addr} {q q2 a b : Addr × Obj} {r : List (Addr × Obj)} (N : News h₀ L h (q :: q2 :: a :: b :: r)) : News h₀ L h (a :: b :: q :: q2 :: r) := fun p hp => N p (by
  simp only [List.mem_cons] at hp ⊢
  rcases hp with h | h | h | h | h <;> simp [h])
end
end Mine
end

section
open PySem PySem.W PyProof.Rows PySem.Spec PySem.Calls
set_option maxRecDepth 100000
namespace Mine
section
variable {prog : Program} {w : World} {A : Around} {s : Shared} {h₀ : Heap} {L : Addr} {m : Str → Option Value} {env : Env} {elt : Expr} {x : Str} {scope : Scope} {cl : List (Str × Addr)} {news : List (Addr × Obj)} {tx : Str} {Fin : List Value → List (Addr × Obj) → Prop}
/-- a turn's end: the text it gives, the ledger as it was -/
def MapEnd (h₀ : Heap) (L : Addr) (m : Str → Option Value) (s : Shared) (r : Str) (led : List (Addr × Obj)) (y : Value) (s₂ : Shared) : Prop :=
  ∃ t h' tk', y = .str r t ∧ s₂ = { s with heap := h', toks := tk' } ∧ Fr h₀ L h' m ∧ News h₀ L h' led
theorem MapEnd.intro {s : Shared} {r r' : Str} {led : List (Addr × Obj)} {t : Tok} {h' : Heap} {tk' : Nat} (e : r' = r) (F : Fr h₀ L h' m) (N : News h₀ L h' led) : MapEnd h₀ L m s r led (.str r' t) { s with heap := h', toks := tk' } := ⟨t, h', tk', by rw [e], rfl, F, N⟩
theorem lt_one {a b : Nat} (h : [a] < [b]) : a < b := by
  rcases List.cons_lt_cons_iff.mp h with h | ⟨_, h⟩
  · exact h
  · exact absurd h (by simp)
theorem ge_one {a b : Nat} (h : ¬ [a] < [b]) : b ≤ a := by
  rcases Nat.lt_or_ge a b with q | q
  · exact absurd (List.cons_lt_cons_iff.mpr (.inl q)) h
  · exact q
theorem rest_map (f : Nat → Str)
    (turn : ∀ c u ys I oI C oC D m₂ h tk (E' : Value → Shared → Prop), c ∈ tx.cps.toList → LCg.NsObj oC m₂ → m₂ x = some (.str ⟨#[c]⟩ u) → Fr h₀ L h m → News h₀ L h ((I, oI) :: (C, oC) :: (D, LCg.lst ys) :: news) → LCg.Off3 I C D news → Apart3 I C D →
      wpAny (model prog w) A (eval elt (compEnvC scope cl C env)) (MapEnd h₀ L m s (f c) ((I, oI) :: (C, oC) :: (D, LCg.lst ys) :: news)) E' { s with heap := h, toks := tk })
    (fin : ∀ ys, StrsAre ys (tx.cps.toList.map f) → Fin ys news) :
    ∀ k i ys, i + k = tx.cps.size → StrsAre ys ((tx.cps.toList.take i).map f) → LCg.CompRest prog w A h₀ L m env elt x scope cl s (fun _ => True) (SignAt tx) Fin k i ys news := by
  intro k
  induction k with
  | zero =>
    intro i ys hi hy
    refine LCg.CompRest.zero (fin ys ?_)
    rw [List.take_of_length_le (by simp; omega)] at hy
    exact hy
  | succ k ih =>
    intro i ys hi hy
    refine LCg.CompRest.succ ?_
    rintro v I oI C oC D m₂ h tk E' ⟨c, u, hc, rfl⟩ hC hx F N off ne
    have hmem : c ∈ tx.cps.toList := by
      rw [Array.mem_toList_iff]
      exact Array.mem_of_getElem? hc
    refine wpAny_mono (turn c u ys I oI C oC D m₂ h tk E' hmem hC hx F N off (apart3 ne)) (fun y s₂ q => ?_) fun _ _ e => e
    obtain ⟨t, h', tk', rfl, rfl, F', N'⟩ := q
    refine ⟨h', tk', news, rfl, F', N', off, trivial, ih (i + 1) _ (by omega) ?_⟩
    have hl : tx.cps.toList.take (i + 1) = tx.cps.toList.take i ++ [c] := by
      rw [List.take_add_one, Array.getElem?_toList, hc]; rfl
    rw [hl, List.map_append]
    exact kct_snoc hy
end
end Mine
end

section
open PySem PySem.W PyProof.Rows PySem.Spec PySem.Calls
set_option maxRecDepth 100000
namespace Mine
section
variable {prog : Program} {w : World} {A : Around} {E : Value → Shared → Prop} {s : Shared} {env : Env} {h₀ : Heap} {x : Str} {body : List Stmt} {Q : Flow → Shared → Prop} {m₀ : Str → Option Value} {news : List (Addr × Obj)}
/-- a for over a range, by what holds of the frame's names -/
theorem range_inv {r : Addr} {a b c : Int} {t u v : Tok} {n : Nat} (J : Nat → (Str → Option Value) → Prop) (hh : A.handled = none) (F : Fr h₀ env.locals s.heap m₀) (N : News h₀ env.locals s.heap news) (hr : IsRange s.heap r a b c t u v) (hsm : Builtin.Range.small a b c = true) (hn : Builtin.Range.rangeSize a b c = ((n : Nat) : Int)) (hj : J 0 m₀)
    (turn : ∀ i u m₁ h tk own, i < n → J i m₁ → Fr h₀ env.locals h (fun y => if y = x then some (.int (a + i * c) u) else m₁ y) → News h₀ env.locals h (own ++ news) →
      wpAny (model prog w) A (execs body env) (InvPost h₀ env.locals (J (i + 1)) (own ++ news) { s with heap := h, toks := tk } Q) E { s with heap := h, toks := tk })
    (done : ∀ m₁ h tk, J n m₁ → Fr h₀ env.locals h m₁ → News h₀ env.locals h news → Q .next { s with heap := h, toks := tk }) :
    wpAny (model prog w) A (pyIter (.ref r)) (fun it s₂ => LoopAtV prog w A h₀ env x body Q E it s₂) E s := by
  refine wpAny_pyIter_range hr hsm ?_
  have W := Walks.range (prog := prog) (w := w) hh s.heap.objs.size a c n
  let J' : Nat → (Str → Option Value) → List (Addr × Obj) → Prop := fun i m₁ news₁ => news₁ = news ∧ J i m₁
  refine ⟨_, _, _, n, _, _, m₀, news, J', rfl, W, ?_, ?_, ?_, (by show IsRangeIter _ _ _ _ _; rw [hn]; simpa using Heap.get?_push_size _ rfl), F.push _, (fun p hp => ⟨Heap.get?_push_of_some _ (N p hp).1, (N p hp).2⟩), ⟨rfl, hj⟩, ?_, ?_⟩
  · intro hm
    exact absurd F.ns.lt ((List.mem_singleton.mp hm) ▸ Nat.lt_irrefl _)
  · intro b hb
    rw [List.mem_singleton.mp hb]
    exact next_is_new F
  · intro p hp hI
    exact absurd (Heap.lt_size (N p hp).1) ((List.mem_singleton.mp hI) ▸ Nat.lt_irrefl _)
  · rintro i vv m₁ news₁ s₁ own ⟨hh', tk', rfl⟩ hin ⟨u, rfl⟩ ⟨rfl, hJ⟩ hoff _ _ _ _ F₁ N₁
    refine wpAny_mono (turn i u m₁ hh' tk' own hin hJ F₁ N₁) (fun f s₂ p => ?_) fun _ _ e => e
    have fin : InvEnd h₀ env.locals (J (i + 1)) (own ++ news₁) { s with heap := hh', toks := tk' } s₂ → LoopStepU h₀ env.locals [s.heap.objs.size] own (J' (i + 1)) { s with heap := hh', toks := tk' } .next s₂ := by
      rintro ⟨h', tk, m', news', e, F', N', hn, hm⟩
      exact ⟨rfl, h', tk, m', news₁, e, F', fun p hp => N' p (hn p hp), hoff, rfl, hm⟩
    cases f with
    | ret v => exact .ret p
    | brk => exact .brk p
    | next => exact .next (fin p)
    | cont => exact .cont (fin p)
  · rintro h' tk m' news' F' N' _ ⟨rfl, hJ⟩
    exact done m' h' tk hJ F' N'
end
end Mine
end

section
open PySem PySem.W PyProof.Rows PySem.Spec PySem.Calls
namespace Mine
/-- a row of signs cut at the blanks, from the left, once -/
noncomputable def cut : List Nat → List (List Nat)
  | [] => [[]]
  | c :: r => if c = 32 then [] :: cut r else match cut r with
    | w :: ws => (c :: w) :: ws
    | [] => [[c]]
noncomputable def jn : List (List Nat) → List Nat
  | [] => []
  | [x] => x
  | x :: y :: r => x ++ 32 :: jn (y :: r)
theorem cut_free : ∀ {x : List Nat}, 32 ∉ x → cut x = [x]
  | [], _ => rfl
  | c :: r, h => by
    have h1 : c ≠ 32 := fun e => h (e ▸ List.mem_cons_self)
    have h2 := cut_free (x := r) fun q => h (List.mem_cons_of_mem _ q)
    rw [cut, if_neg h1, h2]
theorem cut_app (t : List Nat) : ∀ {x : List Nat}, 32 ∉ x → cut (x ++ 32 :: t) = x :: cut t
  | [], _ => by rw [List.nil_append, cut, if_pos rfl]
  | c :: r, h => by
    have h1 : c ≠ 32 := fun e => h (e ▸ List.mem_cons_self)
    have h2 := cut_app t (x := r) fun q => h (List.mem_cons_of_mem _ q)
    rw [List.cons_append, cut, if_neg h1, h2]
theorem cut_jn : ∀ {ps : List (List Nat)}, ps ≠ [] → (∀ p ∈ ps, 32 ∉ p) → cut (jn ps) = ps
  | [], h, _ => absurd rfl h
  | [x], _, h => cut_free (h x List.mem_cons_self)
  | x :: y :: r, _, h => by
    rw [jn, cut_app _ (h x List.mem_cons_self), cut_jn (ps := y :: r) (by simp) fun p hp => h p (List.mem_cons_of_mem _ hp)]
theorem jn_join : ∀ ps : List Str, (Str.join ⟨#[32]⟩ ps).cps.toList = jn (ps.map fun p => p.cps.toList)
  | [] => rfl
  | [x] => rfl
  | x :: y :: r => by
    have ih := jn_join (y :: r)
    show ((x ++ ⟨#[32]⟩ ++ Str.join ⟨#[32]⟩ (y :: r) : Str)).cps.toList = _
    rw [Str.cps_append, Str.cps_append, Array.toList_append, Array.toList_append, ih]
    simp [jn]
theorem split_cut (x : Str) : (Txt.split x ⟨#[32]⟩).map (fun p => p.cps.toList) = cut x.cps.toList := by
  have h1 := StrLaws.join_split x ⟨#[32]⟩
  have h2 := StrLaws.split_free x 32
  have h3 := split_pos x ⟨#[32]⟩
  have e : x.cps.toList = jn ((Txt.split x ⟨#[32]⟩).map fun p => p.cps.toList) := by rw [← jn_join, h1]
  rw [e, cut_jn]
  · intro q
    rw [List.map_eq_nil_iff] at q
    rw [q] at h3
    simp at h3
  · intro p hp
    obtain ⟨q, hq, rfl⟩ := List.mem_map.mp hp
    exact h2 q hq
end Mine
end

section
open PySem PySem.W PyProof.Rows PySem.Spec PySem.Calls
set_option maxRecDepth 100000
namespace Mine
section
variable {prog : Program} {w : World} {A : Around} {s : Shared} {h₀ : Heap} {L : Addr} {m : Str → Option Value} {env : Env} {elt : Expr} {x : Str} {scope : Scope} {cl : List (Str × Addr)} {news : List (Addr × Obj)} {tx : Str} {Fin : List Value → List (Addr × Obj) → Prop}
/-- a turn's end: what it gives, the ledger as it was -/
def TurnEnd (h₀ : Heap) (L : Addr) (m : Str → Option Value) (s : Shared) (P : Value → Prop) (led : List (Addr × Obj)) (y : Value) (s₂ : Shared) : Prop :=
  ∃ h' tk', P y ∧ s₂ = { s with heap := h', toks := tk' } ∧ Fr h₀ L h' m ∧ News h₀ L h' led
theorem TurnEnd.intro {s : Shared} {P : Value → Prop} {led : List (Addr × Obj)} {y : Value} {h' : Heap} {tk' : Nat} (e : P y) (F : Fr h₀ L h' m) (N : News h₀ L h' led) : TurnEnd h₀ L m s P led y { s with heap := h', toks := tk' } := ⟨h', tk', e, rfl, F, N⟩

inductive All2 (R : Nat → Value → Prop) : List Nat → List Value → Prop where
  | nil : All2 R [] []
  | cons {c : Nat} {y : Value} {cs : List Nat} {ys : List Value} : R c y → All2 R cs ys → All2 R (c :: cs) (y :: ys)
theorem All2.snoc {R : Nat → Value → Prop} {cs : List Nat} {ys : List Value} {c : Nat} {y : Value} (h : All2 R cs ys) (hy : R c y) : All2 R (cs ++ [c]) (ys ++ [y]) := by
  induction h with
  | nil => exact .cons hy .nil
  | cons a _ ih => exact .cons a ih
theorem All2.length {R : Nat → Value → Prop} {cs : List Nat} {ys : List Value} (h : All2 R cs ys) : ys.length = cs.length := by
  induction h with
  | nil => rfl
  | cons a _ ih => simp [ih]
/-- a comprehension over a text, by what holds of each turn -/
theorem rest_rel (R : Nat → Value → Prop)
    (turn : ∀ c u ys I oI C oC D m₂ h tk (E' : Value → Shared → Prop), c ∈ tx.cps.toList → LCg.NsObj oC m₂ → m₂ x = some (.str ⟨#[c]⟩ u) → Fr h₀ L h m → News h₀ L h ((I, oI) :: (C, oC) :: (D, LCg.lst ys) :: news) → LCg.Off3 I C D news → Apart3 I C D →
      wpAny (model prog w) A (eval elt (compEnvC scope cl C env)) (TurnEnd h₀ L m s (R c) ((I, oI) :: (C, oC) :: (D, LCg.lst ys) :: news)) E' { s with heap := h, toks := tk })
    (fin : ∀ ys, All2 R tx.cps.toList ys → Fin ys news) :
    ∀ k i ys, i + k = tx.cps.size → All2 R (tx.cps.toList.take i) ys → LCg.CompRest prog w A h₀ L m env elt x scope cl s (fun _ => True) (SignAt tx) Fin k i ys news := by
  intro k
  induction k with
  | zero =>
    intro i ys hi hy
    refine LCg.CompRest.zero (fin ys ?_)
    rw [List.take_of_length_le (by simp; omega)] at hy
    exact hy
  | succ k ih =>
    intro i ys hi hy
    refine LCg.CompRest.succ ?_
    rintro v I oI C oC D m₂ h tk E' ⟨c, u, hc, rfl⟩ hC hx F N off ne
    have hmem : c ∈ tx.cps.toList := by
      rw [Array.mem_toList_iff]
      exact Array.mem_of_getElem? hc
    refine wpAny_mono (turn c u ys I oI C oC D m₂ h tk E' hmem hC hx F N off (apart3 ne)) (fun y s₂ q => ?_) fun _ _ e => e
    obtain ⟨h', tk', hR, rfl, F', N'⟩ := q
    refine ⟨h', tk', news, rfl, F', N', off, trivial, ih (i + 1) _ (by omega) ?_⟩
    have hl : tx.cps.toList.take (i + 1) = tx.cps.toList.take i ++ [c] := by
      rw [List.take_add_one, Array.getElem?_toList, hc]; rfl
    rw [hl]
    exact hy.snoc hR
end
end Mine
end

section
open PySem PySem.W PyProof.Rows PySem.Spec PySem.Calls
open PySem.Builtin PySem.Builtin.ObjectAttr
set_option maxRecDepth 100000
namespace Mine
/-- an own class of faults: below MillError and Exception -/
noncomputable def faultIn (K : Frag) (C : Addr) : Bool := match K.lookup C with
  | some ⟨.type "type", _, .cls cd, sl⟩ => (match sl.toList with
    | [_, _, _, _, some (.builtin n), _] => cd.mro == [.ref C, .ref 45, .type "Exception", .type "BaseException", .type "object"] && n == "Exception.__new__" && !cd.hasDel && cd.hasDict
    | _ => false)
  | _ => false
abbrev bmF : List Value := [.ref 45, .type "Exception", .type "BaseException", .type "object"]
abbrev excO (C t : Addr) : Obj := { cls := .ref C, data := .fields #[.ref t, .none, .none, .none, .bool false, .none] }
theorem fault_cls {K : Frag} {h : Heap} {C : Addr} (X : K.In h) (q : faultIn K C = true) : ∃ nm qn N bs sn sub ab col dd k0 k1 k2 k3 k5,
    h.get? C = some (excClassObj nm qn C N bs bmF true sn sub ab col dd k0 k1 k2 k3 k5 "Exception.__new__") := by
  unfold faultIn at q
  split at q
  · rename_i dd cd sl ho
    split at q
    · rename_i k0 k1 k2 k3 n k5 hs
      simp only [Bool.and_eq_true, beq_iff_eq, Bool.not_eq_true'] at q
      obtain ⟨⟨⟨hm, rfl⟩, hdel⟩, hdi⟩ := q
      obtain ⟨nm, bs, mro, ns, qn, hd, sn, sub, ab, col, del⟩ := cd
      dsimp only at hm hdel hdi
      subst hm hdel hdi
      have hsl : sl = #[k0, k1, k2, k3, some (.builtin "Exception.__new__"), k5] := by
        obtain ⟨l⟩ := sl
        simp only at hs
        rw [hs]
      subst hsl
      exact ⟨nm, qn, ns, bs, sn, sub, ab, col, dd, k0, k1, k2, k3, k5, X _ _ ho⟩
    · cases q
  · cases q
section
variable {prog : Program} {w : World} {A : Around} {R : Result → Shared → Prop} {h : Heap} {g : Array GenState} {d : Drawn} {t : Nat} {os : OsState}
variable {nm q : Str} {C N : Addr} {bs : List Value} {hdct : Bool} {sn : List Str} {sub : List Value} {ab : Bool} {col : Option Bool} {dd : Option Addr} {k0 k1 k2 k3 k5 : Option Value}
theorem bmF_has (C : Addr) : (Value.ref C :: bmF).contains (.type "Exception") = true := by rw [List.contains_cons, show bmF.contains (.type "Exception") = true from by decide, Bool.or_true]
theorem bmF_base (C : Addr) : (Value.ref C :: bmF).contains (.type "BaseException") = true := by rw [List.contains_cons, show bmF.contains (.type "BaseException") = true from by decide, Bool.or_true]
theorem bmF_att (C : Addr) : (Value.ref C :: bmF).contains (.type "AttributeError") = false := by rw [List.contains_cons, show bmF.contains (.type "AttributeError") = false from by decide]; rfl
theorem bmF_nam (C : Addr) : (Value.ref C :: bmF).contains (.type "NameError") = false := by rw [List.contains_cons, show bmF.contains (.type "NameError") = false from by decide]; rfl
theorem bmF_self (C : Addr) : (Value.ref C :: bmF).contains (.ref C) = true := by simp
theorem fault_check {E : Value → Shared → Prop} {M : Model} {rest : List Value} {Q : Unit → Shared → Prop} (hC : h.get? C = some (excClassObj nm q C N bs bmF hdct sn sub ab col dd k0 k1 k2 k3 k5 "Exception.__new__"))
    (hq : Q () ⟨h, g, d, t, os⟩) : wpAny M A (checkBuiltinCall "Exception.__new__" ⟨.ref C :: rest, []⟩) Q E ⟨h, g, d, t, os⟩ := by
  have F := PySem.F.excBase_Exception
  have hcont := bmF_has C
  have hstar := F.noStar
  simp only [checkBuiltinCall, F.newKind, F.newSplit, F.newRow]
  repeat (first | refine wpAny_loadPart_at hC ?_ | (refine wpAny_isSubtype_exc hC ?_; rw [hcont]) | refine wpAny_staticBase_exc hC ?_ | refine wpAny_madeBy_exc hC ?_ | simp only [bne_self_eq_false, Bool.false_eq_true, if_false] | wp_step)
  exact hq
theorem fault_new {rest : List Value} (hC : h.get? C = some (excClassObj nm q C N bs bmF hdct sn sub ab col dd k0 k1 k2 k3 k5 "Exception.__new__"))
    (hq : R (.ok (.ret (.ref (h.objs.size + 1)))) ⟨(h.push { cls := .type "tuple", data := .seq rest.toArray }).push (excO C h.objs.size), g, d, t, os⟩) (hrest : rest.length ≤ sizeLine := by size_fits) :
    codeAny (model prog w) A (.builtin "Exception.__new__" ⟨.ref C :: rest, []⟩) R ⟨h, g, d, t, os⟩ := by
  have F := PySem.F.excBase_Exception
  have hends := F.ends
  have hcB := bmF_has C
  have hcA := bmF_att C
  have hcN := bmF_nam C
  refine codeAny_builtinAt F.entry ?_
  unfold Builtin.«BaseException.__new__»
  refine PySem.wpAt_bind ?_
  show PySem.wpAt _ _ _ (stack >>= _) _ _ _
  refine PySem.wpAt_bind (PySem.wpAt_stack fun p below => PySem.wpAt_of_wpAny ?_)
  wp_walk
  refine PySem.wpAt_of_wpAny ?_
  rw [F.owner]
  repeat (first | with_reducible refine wpAny_madeHere_exc F.canon hC ?_ | with_reducible refine wpAny_loadPart_at hC ?_ | (with_reducible refine wpAny_isSubtype_exc hC ?_; first | rw [hcB] | rw [hcA] | rw [hcN]) | wp_step)
  show R _ _
  rw [Heap.size_push]
  exact hq
end
section
variable {prog : Program} {w : World} {A : Around} {E : Value → Shared → Prop} {h : Heap} {g : Array GenState} {d : Drawn} {t : Nat} {os : OsState} {K : Frag} {C fI : Addr}
/-- a fault is called into being: its object, and the maker's call -/
theorem fault_call {v : Value} {Q : Value → Shared → Prop} (X : K.In h) (hc : faultIn K C = true) (hi : findIn K (.ref C) "__init__" = some (some (.ref fI))) (hf : typeIn K (.ref fI) = some (.type "function"))
    (hq : ∀ h' e, Heap.MadeExcOf h h' e (.ref C) [v] → h.objs.size ≤ e →
      wpAny (model prog w) (A.under (.builtin "type.__call__" ⟨[.ref C, v], []⟩)) (call (.ref fI) [.ref e, v]) (fun r s' => r = .none ∧ Q (.ref e) s') E ⟨h', g, d, t, os⟩) :
    wpAny (model prog w) A (call (.ref C) [v]) Q E ⟨h, g, d, t, os⟩ := by
  obtain ⟨nm, q, N, bs, sn, sub, ab, col, dd, k0, k1, k2, k3, k5, hC⟩ := fault_cls X hc
  have f1 := tc_lookup
  have f2 := tc_bind (.ref C)
  have F := PySem.F.excBase_Exception
  have hT : (⟨h, g, d, t, os⟩ : Shared).TypeIs (.ref C) "type" := ⟨_, hC, rfl⟩
  refine wpAny_call (codeAny_of_tree ?_)
  show wpAny _ _ (callAny (.ref C) _) _ _ _
  repeat (any_goals (first | assumption | with_reducible refine wpAny_loadPart_at hC ?_ | wp_step))
  refine ⟨rfl, ?_⟩
  refine codeAny_call_builtin_at (Code.quiet_builtin _ (by decide +kernel)) entry_typeCall (wpAny_check_type_call_sub hC ?_)
  unfold Builtin.«type.__call__»
  repeat (first | with_reducible refine wpAny_loadPart_at hC ?_ | with_reducible refine wpAny_madeBy_exc hC ?_ | wp_step)
  refine codeAny_call_builtin_code (Code.quiet_builtin _ F.quiet) (fault_check hC ?_)
  refine fault_new (rest := [v]) hC ?_ (by rw [sizeLine_eq]; exact Nat.le_of_ble_eq_true rfl)
  show wpAny _ _ _ _ _ _
  have k : ∀ b o, h.get? b = some o → ((h.push { cls := .type "tuple", data := .seq [v].toArray }).push (excO C h.objs.size)).get? b = some o := fun b o e => Heap.get?_push_of_some _ (Heap.get?_push_of_some _ e)
  have hC₁ := k _ _ hC
  have X₁ := X.keeps k
  have hget : ((h.push { cls := .type "tuple", data := .seq [v].toArray }).push (excO C h.objs.size)).get? (h.objs.size + 1) = some (excO C h.objs.size) := by heap_get
  have hcC := bmF_self C
  unfold isInstance
  repeat (first | with_reducible refine wpAny_loadPart_at hget ?_ | (with_reducible refine wpAny_isSubtype_exc hC₁ ?_; rw [hcC]) | wp_step)
  refine (looks_findIn X₁ hi).here ?_
  refine wpAny_holding (wpAny_bind ?_)
  refine (bind_fn X₁ _ hf).here ?_
  refine wpAny_bind (wpAny_mono (hq _ (h.objs.size + 1) ⟨k, Heap.get?_none_of_le (Nat.le_succ _), h.objs.size, hget, Heap.get?_none_of_le (Nat.le_refl _), ?_⟩ (Nat.le_succ _)) (fun r s' hr => ?_) fun _ _ x => x)
  · exact Heap.get?_push_of_some _ (Heap.get?_push_at rfl rfl)
  · obtain ⟨rfl, hQ⟩ := hr
    wp_walk
    exact hQ
end
end Mine
end

section
open PySem PySem.W PyProof.Rows PySem.Spec PySem.Calls
open PySem.Builtin PySem.Builtin.ObjectAttr
set_option maxRecDepth 100000
namespace Mine
abbrev excD (C t d : Addr) : Obj := { cls := .ref C, dict := some d, data := .fields #[.ref t, .none, .none, .none, .bool false, .none] }
section
variable {prog : Program} {w : World} {A : Around} {E : Value → Shared → Prop} {h : Heap} {g : Array GenState} {dr : Drawn} {t : Nat} {os : OsState} {K : Frag} {C e tt : Addr} {name : Str} {v : Value} {tk : Tok}
  {nm q : Str} {N : Addr} {bs : List Value} {sn : List Str} {sub : List Value} {ab : Bool} {col : Option Bool} {dd : Option Addr} {k0 k1 k2 k3 k5 : Option Value}
theorem fault_sa {M : Model} {o : Obj} {nameV : Value} {Q : Unit → Shared → Prop} (hC : h.get? C = some (excClassObj nm q C N bs bmF true sn sub ab col dd k0 k1 k2 k3 k5 "Exception.__new__")) (hx : h.get? e = some o) (hc : o.cls = .ref C) (hq : Q () ⟨h, g, dr, t, os⟩) :
    wpAny M A (checkBuiltinCall "object.__setattr__" ⟨[.ref e, nameV, v], []⟩) Q E ⟨h, g, dr, t, os⟩ := by
  have SF := PySem.F.store_Exception
  have hcB : (Value.ref C :: bmF).contains (.type "object") = true := by rw [List.contains_cons, show bmF.contains (.type "object") = true from by decide, Bool.or_true]
  have ha := SF.args (.ref e) nameV v
  simp only [checkBuiltinCall, SF.kind, SF.split]
  refine wpAny_bind ?_
  · unfold isInstance
    repeat (first | (with_reducible refine wpAny_loadPart_at hx ?_; rw [hc]) | (with_reducible refine wpAny_isSubtype_exc hC ?_; rw [hcB]) | wp_step)
    cases hsig : Manifest.signature? "object.__setattr__" with
    | none => first | exact wpAny_pure hq | exact hq
    | some sig =>
      simp only [argsOk, hsig] at ha
      have h2 : Bind.checkArgs "object.__setattr__" sig ⟨[.ref e, nameV, v], []⟩ = pure () := ha
      first
        | (show wpAny M A (Bind.checkArgs "object.__setattr__" sig ⟨[.ref e, nameV, v], []⟩) Q E _
           rw [h2]; exact wpAny_pure hq)
        | exact hq
theorem store_new {M : Model} {D : Addr} {Q : Fin → Shared → Prop} (hD : h.get? D = some { cls := .type "dict", data := .dict #[] })
    (hq : ∀ h' tk', Heap.SameBut D h h' → Q (.done (.ret .none)) ⟨h', g, dr, tk', os⟩) : wpAny M A (storeInDict D (.str name tk) name v) Q E ⟨h, g, dr, t, os⟩ := by
  have hnd : h.Ns D (fun _ => none) := ⟨_, #[], _, hD, rfl, fun e he => absurd he (by simp), fun _ => rfl⟩
  unfold storeInDict newKeyGuard
  refine wpAny_bind (wpAny_pure (wpAny_bind (wpAny_nsSet1 (Heap.Ns1.of_empty hnd) fun h' hn' hs => ?_)))
  obtain ⟨oD, esD, epD, hoD, hdD, hcD⟩ := hn'.count (Within.cons name v Within.nil)
  refine wpAny_bind (wpAny_lookBehind hoD (by rw [hdD]; exact pastItsLine_dict (Nat.le_trans hcD (by rw [List.length_cons, List.length_nil, sizeLine_eq]; omega))) ?_)
  wp_walk
  exact hq h' _ hs
theorem fault_store {Q : Fin → Shared → Prop} (X : K.In h) (hf : faultIn K C = true) (hn : findIn K (.ref C) name = some none) (hx : h.get? e = some (excO C tt))
    (hq : ∀ h' d tk', h'.get? e = some (excD C tt d) → (∀ b o, b ≠ e → h.get? b = some o → h'.get? b = some o) → Q (.done (.ret .none)) ⟨h', g, dr, tk', os⟩) :
    wpAny (model prog w) A (Builtin.«object.__setattr__» ⟨[.ref e, .str name tk, v], []⟩) Q E ⟨h, g, dr, t, os⟩ := by
  obtain ⟨nm, q, N, bs, sn, sub, ab, col, dd, k0, k1, k2, k3, k5, hC⟩ := fault_cls X hf
  have hpass := PySem.F.store_Exception.passes (.ref e)
  have hx₁ : (h.push { cls := .type "dict", data := .dict #[] }).get? e = some (excO C tt) := Heap.get?_push_of_some _ hx
  have hxs : e ≠ h.objs.size := Nat.ne_of_lt (Heap.lt_size hx)
  unfold Builtin.«object.__setattr__»
  repeat (first | rw [refuse_eq] | (rw [refuseLoop_ref, refuseLoop_ref, hpass]) | with_reducible refine wpAny_loadPart_at hx ?_ | with_reducible refine wpAny_mroOf_exc hC ?_ | (with_reducible refine PySem.W.Looks.at (looks_findIn X hn)  ?_) | refine store_new ((Heap.get?_update_ne _ _ _ _ hxs.symm).trans (Heap.get?_push_at rfl rfl)) ?_  | wp_step)
  intro h' tk' hs
  refine hq h' h.objs.size tk' ((hs.2 e hxs).trans (Heap.get?_update_self _ hx₁ rfl)) (fun b o hb ho => ?_)
  exact (hs.2 b (Nat.ne_of_lt (Heap.lt_size ho))).trans ((Heap.get?_update_ne _ _ _ _ hb).trans (Heap.get?_push_of_some _ ho))
end
section
variable {prog : Program} {w : World} {A : Around} {E : Value → Shared → Prop} {s : Shared} {K : Frag} {C e tt L : Addr} {name : Str} {v : Value} {g : Heap} {m : Str → Option Value} {rest : List (Addr × Obj)}
/-- a fault's first field -/
theorem set_fault {Q : Unit → Shared → Prop} (F : Fr g L s.heap m) (X₀ : K.In g) (N : News g L s.heap ((e, excO C tt) :: rest)) (hp : ∀ p ∈ rest, p.1 ≠ e)
    (hf : faultIn K C = true) (hs : findIn K (.ref C) "__setattr__" = some (some (.builtin "object.__setattr__"))) (hn : findIn K (.ref C) name = some none)
    (h : ∀ h' d tk', Fr g L h' m → News g L h' ((e, excD C tt d) :: rest) → Q () { s with heap := h', toks := tk' }) : wpAny (model prog w) A (setAttr (.ref e) name v) Q E s := by
  have X := X₀.keeps F.keep
  have D := N _ (List.Mem.head _)
  have hx := D.1
  have I : InstAt s.heap e (excO C tt) C none := ⟨hx, rfl, rfl, trivial⟩
  refine set_plain X I hs ?_
  obtain ⟨nm, q, NN, bs, sn, sub, ab, col, dd, k0, k1, k2, k3, k5, hC⟩ := fault_cls X hf
  obtain ⟨hh, gg, dr, t, os⟩ := s
  refine codeAny_call_builtin PySem.F.store_Exception.slot.plain PySem.F.store_Exception.entry (fault_sa hC hx rfl (fault_store X hf hn hx fun h' d tk' h1 h2 => ?_))
  refine h h' d tk' ⟨?_, fun b o hb => h2 b o (fun q => by rw [q, D.2.2] at hb; cases hb) (F.keep b o hb), F.above⟩ (fun p hp' => ?_)
  · obtain ⟨oL, es, ep, hL, r⟩ := F.ns
    exact ⟨oL, es, ep, h2 _ _ (Ne.symm D.2.1) hL, r⟩
  · rcases List.mem_cons.mp hp' with rfl | hp''
    · exact ⟨h1, D.2.1, D.2.2⟩
    · exact ⟨h2 _ _ (hp p hp'') (N p (List.mem_cons_of_mem _ hp'')).1, (N p (List.mem_cons_of_mem _ hp'')).2⟩
end
end Mine
end

section
open PySem PySem.W PyProof.Rows PySem.Spec PySem.Calls
set_option maxRecDepth 100000
namespace Mine
section
variable {M : Model} {A : Around} {E : Value → Shared → Prop} {s' : Shared} {base g : Heap} {outer : List Env} {L a e t C : Addr} {m : Str → Option Value} {name : Str} {scope : Scope} {cd : Value} {Q : Unit → Shared → Prop} {news : List (Addr × Obj)} {o : Obj} {vs : List Value} {fs : Array Value}
theorem leave_raiseD (K : Below A base outer g) (F : Fr g L s'.heap m) (N : News g L s'.heap ((e, o) :: (t, tupO vs) :: news)) (hc : o.cls = .ref C) (hd : o.data = .fields fs)
    (h0 : fs[0]? = some (.ref t)) (h1 : fs[1]? = some .none) (hne : ∀ p ∈ news, p.1 ≠ e ∧ p.1 ≠ t)
    (hQ : ∀ h', RaisedS base g outer e (.ref C) t vs news h' → g.UpToSlots h' → Q () { s' with heap := h' }) (hk : scope.kind = .function := by rfl) :
    wpAny M (A.deeper (envOf name scope L a cd)) (leaving (envOf name scope L a cd) (.ref e)) Q E s' := by
  have K' := K.push (name := name) (a := a) (cd := cd) F hk
  have De := N _ (List.Mem.head _)
  have Dt := N _ (List.Mem.tail _ (List.Mem.head _))
  have hfrm : ∀ b, b ∈ (envOf name scope L a cd :: outer).filterMap (·.frame) → b = L ∨ ∃ o', g.get? b = some o' := fun b hm => by
    rcases kts_mem hm with z | z
    · exact .inl z
    · obtain ⟨_, o', ho', _⟩ := K.frames.mem z
      exact .inr ⟨o', ho'⟩
  have keepG : ∀ b o', g.get? b = some o' → b ∉ outer.filterMap (·.frame) → (hideAll s'.heap (e :: t :: (envOf name scope L a cd :: outer).filterMap (·.frame))).get? b = some o' := fun b o' q nm => hideAll_get _ (F.keep b o' q) fun hm => by
    rcases List.mem_cons.mp hm with z | hm
    · rw [z, De.2.2] at q; cases q
    rcases List.mem_cons.mp hm with z | hm
    · rw [z, Dt.2.2] at q; cases q
    rcases kts_mem hm with z | z
    · rw [z, kts_self F] at q; cases q
    · exact nm z
  have st : base.StaysIn (hideAll s'.heap (e :: t :: (envOf name scope L a cd :: outer).filterMap (·.frame))) := fun b o' q => keepG b o' (K.stays b o' q) fun hm => by
    rw [(K.frames.mem hm).1] at q; cases q
  have hl : ∀ q ∈ news, (hideAll s'.heap (e :: t :: (envOf name scope L a cd :: outer).filterMap (·.frame))).get? q.1 = some q.2 ∧ g.get? q.1 = none ∧ base.get? q.1 = none := fun q hq => by
    have Dq := N q (List.Mem.tail _ (List.Mem.tail _ hq))
    refine ⟨hideAll_get _ Dq.1 fun hm => ?_, Dq.2.2, fresh_of_stays K.stays Dq.2.2⟩
    rcases List.mem_cons.mp hm with z | hm
    · exact (hne q hq).1 z
    rcases List.mem_cons.mp hm with z | hm
    · exact (hne q hq).2 z
    rcases hfrm _ hm with z | ⟨o', z⟩
    · exact Dq.2.1 z
    · rw [Dq.2.2] at z; cases z
  have hin : ∀ env ∈ (envOf name scope L a cd :: outer), ∀ b, env.frame = some b → b ∈ e :: t :: (envOf name scope L a cd :: outer).filterMap (·.frame) := fun env he b hb => List.Mem.tail _ (List.Mem.tail _ (List.mem_filterMap.mpr ⟨env, he, hb⟩))
  have hen : (hideAll s'.heap (e :: t :: (envOf name scope L a cd :: outer).filterMap (·.frame))).get? e = none := hideAll_none _ (List.Mem.head _)
  have htn : (hideAll s'.heap (e :: t :: (envOf name scope L a cd :: outer).filterMap (·.frame))).get? t = none := hideAll_none _ (List.Mem.tail _ (List.Mem.head _))
  refine wpAny_leaving_firstW (a0 := .ref t) K'.stack (funFrames_hide K'.frames hin) rfl De.1 (fun b o' q => of_hideAll _ q) hen hd h1 h0 fun h' hL => ?_
  obtain ⟨k1, ⟨_, _, k2⟩, k3, k4⟩ := hL
  exact hQ h' ⟨⟨_, st, keepG, hl, ⟨k1, hen, k2, by rw [← hc]; exact k3⟩, htn⟩, Heap.TupAt.of_slots ⟨_, _, Dt.1, rfl, rfl⟩ k4⟩ ((Heap.UpToSlots.of_keeps F.keep).trans k4)
end
end Mine
end

section
open PySem PySem.W PyProof.Rows PySem.Spec PySem.Calls
set_option maxRecDepth 100000
namespace Mine
section
variable {prog : Program} {w : World} {A : Around} {E : Value → Shared → Prop} {s : Shared} {K : Frag} {C : Addr} {env : Env} {Q : Flow → Shared → Prop}
/-- what a raised value must be: an object of the own class, and what is behind it -/
structure RaiseEnd (K : Frag) (C : Addr) (E : Value → Shared → Prop) (v : Value) (s : Shared) : Prop where
  out : ∃ e o fs, v = .ref e ∧ K.In s.heap ∧ s.heap.get? e = some o ∧ o.cls = .ref C ∧ o.data = .fields fs ∧ fs[1]? = some .none ∧ E (.ref e) s
theorem RaiseEnd.intro {g : Heap} {L e : Addr} {o : Obj} {m : Str → Option Value} {news : List (Addr × Obj)} (X : K.In g) (F : Fr g L s.heap m) (N : News g L s.heap news) (hm : (e, o) ∈ news) {fs : Array Value} (hc : o.cls = .ref C) (hd : o.data = .fields fs) (h1 : fs[1]? = some .none) (h : E (.ref e) s) : RaiseEnd K C E (.ref e) s :=
  ⟨e, o, fs, rfl, X.keeps F.keep, (N _ hm).1, hc, hd, h1, h⟩
theorem raiseStmt_fault {x : Sem Value} (hf : faultIn K C = true) (hh : A.handled = none) (h : wpAny (model prog w) A x (RaiseEnd K C E) E s) : wpAny (model prog w) A (raiseStmt env (some x) none) Q E s := by
  unfold raiseStmt
  refine wpAny_bind (wpAny_mono h (fun v s₁ h₁ => ?_) fun _ _ x => x)
  obtain ⟨e, o, fs, rfl, X, he, hc, hd, hf1, hE⟩ := h₁.out
  obtain ⟨nm, q, N, bs, sn, sub, ab, col, dd, k0, k1, k2, k3, k5, hC⟩ := fault_cls X hf
  have hcB := bmF_base C
  obtain ⟨hp, g, d, tk, os⟩ := s₁
  obtain ⟨cls, dct, dat, slt⟩ := o
  dsimp only at hc hd
  subst hc hd
  repeat (first | with_reducible refine wpAny_loadPart_at he ?_ | with_reducible refine wpAny_loadPart_at hC ?_ | (with_reducible refine wpAny_isSubtype_exc hC ?_; rw [hcB]) | wp_step)
  rw [hf1]
  refine wpAny_pure ?_
  rw [if_neg (by decide)]
  refine wpAny_pure ?_
  exact wpAny_raiseNew_none hh hE
theorem exec_raise_fault {x : Expr} {pos : Pos} (hf : faultIn K C = true) (hh : A.handled = none) (h : wpAny (model prog w) A (eval x env) (RaiseEnd K C E) E s) : wpAny (model prog w) A (exec (.Raise (some x) none pos) env) Q E s := by
  rw [arm_exec_Raise]
  first
    | exact wpAny_bind (wpAny_standAt (raiseStmt_fault hf hh (wpAny_bind (wpAny_mono h (fun v s₃ h₃ => wpAny_bind (wpAny_standAt (wpAny_pure h₃))) fun _ _ x => x))))
    | (simp only [evalOpt, Option.map]; exact wpAny_bind (wpAny_standAt (raiseStmt_fault hf hh (wpAny_bind (wpAny_mono h (fun v s₃ h₃ => wpAny_bind (wpAny_standAt (wpAny_pure h₃))) fun _ _ x => x)))))
end
end Mine
end

section
open PySem PySem.W PyProof.Rows PySem.Spec PySem.Calls
set_option maxRecDepth 100000
namespace Mine
variable {w : World} {mean : ExcName → Option Value} {mg mb : Str → Option Value}
local macro_rules | `(tactic| k_all) => `(tactic| first
  | assumption
  | (intro p9 hp9; (repeat' (first
      | (with_reducible rename (∀ p : Addr × Obj, p ∈ (_ : List (Addr × Obj)) → @LT.lt Nat _ p.1 _) => hq9; first | replace hq9 := ltN (hq9 p9 hp9) | clear hq9)
      | (with_reducible rename AllLt _ _ => hq9; first | replace hq9 := ltN (ktn_ltOf hq9 p9 hp9) | clear hq9)
      | (with_reducible rename (_ ∧ AllLt _ _) => hq9; obtain ⟨hz9, hq9⟩ := hq9))); (refine neN ?_); omega))
local macro_rules | `(tactic| k_mem) => `(tactic| assumption)
local macro_rules | `(tactic| walk_at "setAttr ref") => `(tactic| (k_here; k_dflt (refine' set_fault ?k1 ?k2 ?k3 ?k4 ?k5 ?k6 ?k7 ?_; (case k1 => k_asm); (case k2 => k_asm); (case k3 => assumption); (case k4 => assumption); (case k5 => assumption); (case k6 => assumption); (case k7 => assumption)); intro h7 d7 tk7 F7 N7; (try dsimp only); (try k_fold)))
set_option maxHeartbeats 4000000 in
theorem fault_is (C : Addr) (hC : C = 58 ∨ C = 70) (msg : Str) (tk : Tok) (news : List (Addr × Obj)) {A A₀ : Around} {env : Env} {outer : List Env} {base h₀ : Heap} {L : Addr} {m : Str → Option Value} {s : Shared} {Q E : Value → Shared → Prop}
    (B : Below A₀ base outer h₀) (F : Fr h₀ L s.heap m) (X : (laid.heap_1 w.params).In h₀) (N : News h₀ L s.heap news) (T : Top hd.view_1 (looseW hd.view_1 [Str.ofString "fraction"]) mean mg mb h₀)
    (hA : A.frames = some (env :: outer)) (hf : env.frame = some L) (hke : env.scope.kind = .function) (hd9 : A.depth + 2 < recursionLimit)
    (hret : ∀ e t d h' tk', Fr h₀ L h' m → News h₀ L h' ((e, excD C t d) :: (t, tupO [.str msg tk]) :: news) → (∀ p ∈ news, p.1 ≠ e ∧ p.1 ≠ t) → Q (.ref e) { s with heap := h', toks := tk' }) :
    wpAny (model PySem.Challenge.rw_nu0021_01.row.prog w) A (call (.ref C) [.str msg tk]) Q E s := by
  revert B F X N T hA hf hke hd9 hret
  suffices hz : (laid.heap_1 = laid.heap_1 → PySem.Challenge.rw_nu0021_01 = PySem.Challenge.rw_nu0021_01 → _) from hz rfl rfl
  k_fill
  intro _ _ B F X N T hA hf hke hd9 hret
  have hc1 : faultIn (laid.heap_1 w.params) C = true := by
    rcases hC with rfl | rfl
    · kernel_rfl
    · kernel_rfl
  have hs1 : findIn (laid.heap_1 w.params) (.ref C) "__setattr__" = some (some (.builtin "object.__setattr__")) := by
    rcases hC with rfl | rfl
    · k_is
    · k_is
  have hn1 : findIn (laid.heap_1 w.params) (.ref C) "message" = some none := by
    rcases hC with rfl | rfl
    · k_is
    · k_is
  have hi1 : findIn (laid.heap_1 w.params) (.ref C) "__init__" = some (some (.ref 42)) := by
    rcases hC with rfl | rfl
    · k_is
    · k_is
  have hf1 : typeIn (laid.heap_1 w.params) (.ref 42) = some (.type "function") := by k_is
  refine fault_call (X.keeps F.keep) hc1 hi1 hf1 ?_
  intro h1 e1 M1 l1
  obtain ⟨t1, he1, ht0, ht1⟩ := M1.there
  have X1 := X.keeps F.keep
  have F1 : Fr h₀ L h1 m := by
    obtain ⟨oL, es, ep, hL, r⟩ := F.ns
    exact ⟨⟨oL, es, ep, M1.keeps _ _ hL, r⟩, fun b o q => M1.keeps _ _ (F.keep b o q), F.above⟩
  have N0 : News h₀ L h1 news := fun p hp => ⟨M1.keeps _ _ (N p hp).1, (N p hp).2⟩
  have nu1 : ∀ b, s.heap.get? b = none → h₀.get? b = none := fun b q => kts_none F.keep q
  have N1 : News h₀ L h1 ((e1, excO C t1) :: (t1, tupO [.str msg tk]) :: news) := News.more F1 (News.more F1 N0 ht1 (fun es n q => by cases q) (nu1 _ ht0)) he1 (fun es n q => by cases q) (nu1 _ M1.new)
  have hne : ∀ p ∈ news, p.1 ≠ e1 ∧ p.1 ≠ t1 := fun p hp => by
    refine ⟨fun z => ?_, fun z => ?_⟩
    · have := (N p hp).1
      rw [z, M1.new] at this
      cases this
    · have := (N p hp).1
      rw [z, ht0] at this
      cases this
  have hne1 : ∀ p ∈ (t1, tupO [.str msg tk]) :: news, p.1 ≠ e1 := fun p hp => by
    rcases List.mem_cons.mp hp with rfl | hp
    · intro z
      dsimp only at z
      rw [z, he1] at ht1
      cases ht1
    · exact (hne p hp).1
  clear he1 ht0 ht1 X1 N0 nu1 l1 M1 N F
  refine wpAny_call ?_
  k_dflt (refine' code_def ?k1 ?k2 ?k3 ?k4 ?k5 ?kA ?kF ?kK ?k6 ?k7 ?k8 ?k9 ?kB ?_ ?c2 ?c3 ?c4 ?c5; (case kA => exact hA); (case kF => exact hf); (case kK => exact hke); (case k1 => k_asm); (case k2 => exact F1); (case k3 => k_asm); (case k4 => exact N1); (case k5 => k_asm); (case k6 => k_is); (case k7 => k_is); (case k8 => ktr_room); (case k9 => first | exact BindsTo.of_eq rfl | exact binds_K (by k_in) rfl (by k_is) rfl rfl rfl); (case c5 => decide); (case kB => exact locs rfl); (case c2 => exact rfl); (case c3 => exact rfl); (case c4 => exact rfl); k_whole; intro g' L' h' FG' F' N' B' X' T'; (try dsimp only); (try k_lift B'); (try k_fold))
  k_steps
  exact hret _ _ _ _ _ (by assumption) (by assumption) hne
theorem RaiseEnd.ofD {K : Frag} {C : Addr} {E : Value → Shared → Prop} {s : Shared} {g : Heap} {L e t d : Addr} {m : Str → Option Value} {rest : List (Addr × Obj)} (X : K.In g) (F : Fr g L s.heap m) (N : News g L s.heap ((e, excD C t d) :: rest)) (h : E (.ref e) s) : RaiseEnd K C E (.ref e) s :=
  RaiseEnd.intro X F N (List.Mem.head _) rfl rfl rfl h
theorem off2 {l l' : List (Addr × Obj)} {e t : Addr} (h : ∀ p ∈ l', p.1 ≠ e ∧ p.1 ≠ t) (s : ∀ p ∈ l, p ∈ l') : ∀ p ∈ l, p.1 ≠ e ∧ p.1 ≠ t := fun p hp => h p (s p hp)
theorem leave_raiseE {M : Model} {A : Around} {E : Value → Shared → Prop} {s' : Shared} {base g : Heap} {outer : List Env} {L a e t d C : Addr} {m : Str → Option Value} {name : Str} {scope : Scope} {cd : Value} {Q : Unit → Shared → Prop} {news : List (Addr × Obj)} {vs : List Value}
    (K : Below A base outer g) (F : Fr g L s'.heap m) (N : News g L s'.heap ((e, excD C t d) :: (t, tupO vs) :: news)) (hne : ∀ p ∈ news, p.1 ≠ e ∧ p.1 ≠ t)
    (hQ : ∀ h', RaisedS base g outer e (.ref C) t vs news h' → g.UpToSlots h' → Q () { s' with heap := h' }) (hk : scope.kind = .function := by rfl) :
    wpAny M (A.deeper (envOf name scope L a cd)) (leaving (envOf name scope L a cd) (.ref e)) Q E s' :=
  leave_raiseD K F N rfl rfl rfl rfl hne hQ hk
theorem raised_sub {base G : Heap} {l : List Env} {e t : Addr} {cls : Value} {vs : List Value} {news news' : List (Addr × Obj)} {h : Heap} (R : RaisedS base G l e cls t vs news h) (s : ∀ p ∈ news', p ∈ news) : RaisedS base G l e cls t vs news' h := by
  obtain ⟨⟨B, hB, hBG, hl, hfl, hnew⟩, htup⟩ := R
  exact ⟨⟨B, hB, hBG, fun q hq => hl q (s q hq), hfl, hnew⟩, htup⟩
/-- what a call of a def that raises stands on -/
abbrev RaiseOf (w : World) (mean : ExcName → Option Value) (mg mb : Str → Option Value) (f : Addr) (vs : List Value) (room : Nat) (news : List (Addr × Obj)) (C : Addr) : Prop :=
  ∀ (dp un : Nat) (gd : Option (List Code)) (cn : Str) (cs : Scope) (a : Addr) (ccd : Value) (cl : List (Str × Addr)) (outer : List Env) (A₀ : Around) (base h₀ : Heap) (L : Addr) (m : Str → Option Value) (s : Shared) (Q E : Value → Shared → Prop),
    Below A₀ base outer h₀ → Fr h₀ L s.heap m → (laid.heap_1 w.params).In h₀ → News h₀ L s.heap news → Top hd.view_1 (looseW hd.view_1 [Str.ofString "fraction"]) mean mg mb h₀ → cs.kind = .function →
    dp + room < recursionLimit → un + 8 * room < cLine → (laid.heap_1 w.params).In base → Top hd.view_1 (looseW hd.view_1 [Str.ofString "fraction"]) mean mg mb base →
    (∀ (e t : Addr) (ws : List Value) (h' : Heap) (tk' : Nat) (G : Heap), Fr h₀ L G m → RaisedS base G (envX cn cs L a ccd cl :: outer) e (.ref C) t ws news h' → G.UpToSlots h' → E (.ref e) { s with heap := h', toks := tk' }) →
    wpAny (model PySem.Challenge.rw_nu0021_01.row.prog w) (ktrTop dp un gd cn cs L a ccd cl outer) (call (.ref f) vs) Q E s
end Mine
end

section
open PySem PySem.W PyProof.Rows PySem.Spec PySem.Calls
set_option maxRecDepth 100000
namespace Mine
theorem frame_mem {env : Env} {L b : Addr} {outer : List Env} (hf : env.frame = some L) (hm : b ∈ (env :: outer).filterMap (·.frame)) : b = L ∨ b ∈ outer.filterMap (·.frame) := by
  obtain ⟨e, he, hb⟩ := List.mem_filterMap.mp hm
  rcases List.mem_cons.mp he with rfl | he
  · exact .inl (Option.some.inj (hb.symm.trans hf))
  · exact .inr (List.mem_filterMap.mpr ⟨e, he, hb⟩)
section
variable {prog : Program} {w : World} {A₀ A : Around} {s : Shared} {base h₀ : Heap} {env : Env} {outer : List Env} {L : Addr} {m : Str → Option Value} {news : List (Addr × Obj)} {K : Frag} {p : Program} {loose : List Str} {mean : ExcName → Option Value} {mg mb : Str → Option Value}
    {R : Result → Shared → Prop} {name qual : Str} {params : Arguments} {body : List Stmt} {scope : Scope} {dV kV doc pm cdv ct oc : Value} {an od : Option Addr} {osl : Array (Option Value)} {f : Addr} {args : Args} {binds : List (Str × Value)}
/-- a def is entered by any caller; its try may turn the frames under it -/
theorem code_defT (B : Below A₀ base outer h₀) (F : Fr h₀ L s.heap m) (X₀ : K.In h₀) (N : News h₀ L s.heap news) (T : Top p loose mean mg mb h₀) (XB : K.In base) (TB : Top p loose mean mg mb base) (D : KtsDicts (outer.filterMap (·.frame)) h₀)
    (hA : A.frames = some (env :: outer)) (hf : env.frame = some L) (hke : env.scope.kind = .function)
    (ho : K.lookup f = some ⟨oc, od, .func (fnOf name qual params body scope dV kV doc pm an cdv ct), osl⟩) (hcd : codeIn K cdv qual = true) (hroom : A.depth < recursionLimit)
    (hbind : BindsTo s (fnOf name qual params body scope dV kV doc pm an cdv ct) args binds) (hloc : ∀ y ∈ binds, scope.names.lookup y.1 = some .local)
    (h : ∀ g L' h₁, Fr h₀ L g m → Fr g L' h₁ (fun y => binds.reverse.lookup y) → News g L' h₁ news → Below A base (env :: outer) g → K.In g → Top p loose mean mg mb g → KtsDicts ((env :: outer).filterMap (·.frame)) g →
      wpAny (model prog w) (A.deeper (envOf qual scope L' f cdv)) (execs body (envOf qual scope L' f cdv))
        (fun fl s' => LeaveS ((env :: outer).filterMap (·.frame)) A₀ base outer K p loose mean mg mb h₀ h₀ L m g R (match fl with | .ret v => v | _ => .none) s')
        (fun e s' => wpAny (model prog w) (A.deeper (envOf qual scope L' f cdv)) (leaving (envOf qual scope L' f cdv) e) (fun _ s'' => R (.error e) s'') (fun e' s'' => R (.error e') s'') s')
        { s with heap := h₁, toks := s.toks + binds.length })
    (hco : scope.isCoroutine = false) (hgen : scope.isGenerator = false) (hk : scope.kind = .function)
    (hcell : ∀ x ∈ scope.names, x.2 ≠ .cell) : codeAny (model prog w) A (.call (.ref f) args) R s := by
  have X := X₀.keeps F.keep
  refine codeAny_call_def (fd := fnOf name qual params body scope dV kV doc pm an cdv ct) (body := body) (binds := binds) hroom (X _ _ ho) rfl (T.nolimit.keeps F.keep) (codeRec_of X hcd) rfl hbind hcell hloc (fun h₁ hns hk₁ => ?_) hco hgen hk
  obtain ⟨FG, BG, st, _⟩ := groundX (R := R) B F N hA hf hke
  obtain ⟨oL, es, ep, hLg, hLd, hLk, hLf⟩ := FG.ns
  refine wpAny_mono (h _ s.heap.objs.size h₁ FG ⟨hns, fun b o e => hk₁ b o (of_hideAll _ e), Nat.le_of_eq (hideAll_size _ _)⟩
    (fun p hp => ⟨hk₁ _ _ (N p hp).1, Nat.ne_of_lt (Heap.lt_size (N p hp).1), hideAll_none _ (List.mem_map_of_mem hp)⟩) BG (X₀.keeps st) (T.keeps st) (fun b hb => by
      rcases frame_mem hf hb with rfl | hb
      · exact ⟨oL, es, ep, hLg, hLd⟩
      · obtain ⟨o, es', n', ho', hd'⟩ := D b hb
        exact ⟨o, es', n', st b o ho', hd'⟩)) (fun fl s' hl => ?_) fun _ _ y => y
  have nL₀ : h₀.get? L = none := kts_self F
  rcases hl with ⟨L', m', news', F', N', k⟩ | ⟨g', L', m', news', T', F', N', k⟩
  · refine k ⟨⟨oL, es, ep, F'.keep _ _ hLg, hLd, hLk, hLf⟩, fun b o e => F'.keep b o (st b o e), F.above⟩ fun p hp => ⟨(N' p hp).1, fun q => ?_, ?_⟩
    · have := (N' p hp).2.2; rw [q, hLg] at this; cases this
    · cases q : h₀.get? p.1 with
      | none => rfl
      | some o => have := (N' p hp).2.2; rw [st _ _ q] at this; cases this
  obtain ⟨sl, hs⟩ := T'.up hLg
  obtain ⟨T₁, S₁⟩ := kts_turn_at (h := s'.heap) (fs := outer.filterMap (·.frame)) (g := h₀)
    (fun b hb => by
      obtain ⟨_, o, ho', _⟩ := B.frames.mem hb
      exact ⟨o, ho'⟩)
    (fun b o e nmem => F'.keep b o (T'.other b o (st b o e) (fun q => by
      rcases frame_mem hf q with z | z
      · rw [z, nL₀] at e
        cases e
      · exact nmem z)))
    (fun b o e hm => by
      obtain ⟨sl', hs'⟩ := T'.up (st b o e)
      exact ⟨sl', F'.keep _ _ hs'⟩)
  have B₃ : Below A₀ base outer (ktsHeap s'.heap (outer.filterMap (·.frame)) h₀) := ⟨B.stack, fun b o e => T₁.other b o (B.stays b o e) (fun hm => by
    rw [(B.frames.mem hm).1] at e
    cases e), B.frames.of_keeps fun b o e _ => by
    obtain ⟨sl', hs'⟩ := T₁.up e
    exact ⟨_, hs', rfl⟩⟩
  refine k _ T₁ ⟨⟨_, es, ep, F'.keep _ _ hs, hLd, hLk, hLf⟩, S₁, by rw [T₁.size]; exact F.above⟩ (fun p hp => ⟨(N' p hp).1, fun q => ?_, ?_⟩) B₃ (XB.keeps B₃.stays) (TB.keeps B₃.stays) (D.turn T₁)
  · have := (N' p hp).2.2; rw [q, hs] at this; cases this
  · refine T₁.none_ _ ?_
    cases q : h₀.get? p.1 with
    | none => rfl
    | some o =>
      obtain ⟨sl', hs'⟩ := T'.up (st _ _ q)
      have := (N' p hp).2.2
      rw [hs'] at this
      cases this
end
/-- a call that may catch a fault: the frames under it may turn -/
abbrev CatchOf (w : World) (mean : ExcName → Option Value) (mg mb : Str → Option Value) (f : Addr) (vs : List Value) (room : Nat) (news : List (Addr × Obj)) (v : Value) : Prop :=
  ∀ (dp un : Nat) (gd : Option (List Code)) (cn : Str) (cs : Scope) (a : Addr) (ccd : Value) (cl : List (Str × Addr)) (outer : List Env) (A₀ : Around) (base h₀ : Heap) (L : Addr) (m : Str → Option Value) (s : Shared) (Q E : Value → Shared → Prop),
    Below A₀ base outer h₀ → Fr h₀ L s.heap m → (laid.heap_1 w.params).In h₀ → News h₀ L s.heap news → Top hd.view_1 (looseW hd.view_1 [Str.ofString "fraction"]) mean mg mb h₀ → cs.kind = .function →
    dp + room < recursionLimit → un + 8 * room < cLine → (laid.heap_1 w.params).In base → Top hd.view_1 (looseW hd.view_1 [Str.ofString "fraction"]) mean mg mb base → KtsDicts (outer.filterMap (·.frame)) h₀ →
    (∀ (h' : Heap) (tk' : Nat) (h₀' : Heap), KtsTurn (outer.filterMap (·.frame)) h₀ h₀' → Fr h₀' L h' m → News h₀' L h' news → Below A₀ base outer h₀' → (laid.heap_1 w.params).In h₀' → Top hd.view_1 (looseW hd.view_1 [Str.ofString "fraction"]) mean mg mb h₀' →
      KtsDicts (outer.filterMap (·.frame)) h₀' → Q v { s with heap := h', toks := tk' }) →
    wpAny (model PySem.Challenge.rw_nu0021_01.row.prog w) (ktrTop dp un gd cn cs L a ccd cl outer) (call (.ref f) vs) Q E s
end Mine
end

section
open PySem PySem.W PyProof.Rows PySem.Spec PySem.Calls
set_option maxRecDepth 100000
namespace Mine
/-- a fault in flight that has no context yet -/
def Tr2 (h base : Heap) (e : Addr) (cls a0 fl : Value) : Prop :=
  ∃ oe vs T oT ts, h.get? e = some oe ∧ (oe.cls = cls ∧ vs[0]? = some a0 ∧ vs[2]? = some .none) ∧ oe.data = .fields vs ∧ vs[1]? = some (.ref T) ∧ base.get? T = none ∧ T ≠ e ∧ h.get? T = some oT ∧ oT.data = .fields ts ∧ ts[3]? = some fl
def Nt2 (base : Heap) (l : List Env) (e : Addr) (cls a0 fl : Value) (h h' : Heap) : Prop :=
  base.StaysIn h' ∧ h'.FunFrames base l ∧ Tr2 h' base e cls a0 fl ∧ h.UpToSlots h'
theorem mapFields_data {o : Obj} {vs : Array Value} (f : Array Value → Array Value) (hd : o.data = .fields vs) : (Obj.mapFields f o).data = .fields (f vs) := Obj.data_mapFields hd f
section
variable {M : Model} {A : Around} {E : Value → Shared → Prop} {s : Shared} {base : Heap}
theorem entry2 {env : Env} {outer : List Env} {L e : Addr} {oe : Obj} {vs : Array Value} {head a0 : Value} {hadNext : Bool} {Q : Unit → Shared → Prop}
    (hfr : A.frames = some (env :: outer)) (hl : s.heap.FunFrames base (env :: outer)) (hf : env.frame = some L)
    (he : s.heap.get? e = some oe) (hkb : base.StaysIn s.heap) (hen : base.get? e = none) (hd : oe.data = .fields vs) (hsz : 1 < vs.size) (h0 : vs[0]? = some a0) (h2 : vs[2]? = some .none)
    (h : ∀ h', Nt2 base (env :: outer) e oe.cls a0 (rawInt L) s.heap h' → Q () { s with heap := h' }) :
    wpAny M A (do let a ← frameOf env; let pl ← entryPlaceOf L hadNext; let b ← EntryCells.newEntry head a .none (rawInt L) .none pl; setField (.ref e) 1 b) Q E s := by
  have hne : ∀ b o, s.heap.get? b = some o → (∀ vs, o.data ≠ .fields vs) → b ≠ e := fun b o hb hnf q => by
    rw [q, he] at hb
    cases hb
    exact hnf vs hd
  have hene : e ∉ (env :: outer).filterMap (·.frame) := fun hm => by
    obtain ⟨_, o, ho, hnf⟩ := hl.mem hm
    exact hne e o ho hnf rfl
  refine wpAny_bind (wpAny_frameOf_fun hfr hl hf fun h₁ hs₁ => ?_)
  refine wpAny_bind (wpAny_entryPlaceOf fun pl hpl => ?_)
  unfold EntryCells.newEntry newFields
  refine wpAny_bind (wpAny_newObj_type ?_ (hpl.sizeOk5 _ _ _ _ _))
  have he₁ : h₁.get? e = some oe := (hs₁.2.1 e hene).trans he
  have kb₁ : base.StaysIn h₁ := fun b o hbo => (hs₁.2.1 b fun hm => by rw [(hl.mem hm).1] at hbo; cases hbo).trans (hkb b o hbo)
  generalize hN : ({ cls := .type "traceback", dict := none, data := .fields ([head, .ref L, .none, rawInt L, .none] ++ (if pl.isEmpty then List.replicate 6 Value.none else pl)).toArray } : Obj) = N
  have hNd : N.data = .fields ([head, .ref L, .none, rawInt L, .none] ++ (if pl.isEmpty then List.replicate 6 Value.none else pl)).toArray := by rw [← hN]
  have hNf : N.isFreed = false := by rw [← hN]; rfl
  have he₂ := Heap.get?_push_of_some (h := h₁) N he₁
  refine wpAny_setField he₂ hd hsz (h _ ?_)
  have hTe : h₁.objs.size ≠ e := Nat.ne_of_gt (Heap.lt_size he₁)
  have hd₃ := mapFields_data (·.setIfInBounds 1 (Value.ref h₁.objs.size)) hd
  have he₃ := Heap.get?_update_self (Obj.mapFields (·.setIfInBounds 1 (Value.ref h₁.objs.size))) he₂ (Obj.isFreed_of_fields hd₃)
  have keep : ∀ b o, b ≠ e → h₁.get? b = some o → ((h₁.push N).update e (Obj.mapFields (·.setIfInBounds 1 (Value.ref h₁.objs.size)))).get? b = some o := fun b o hbe hb =>
    (Heap.get?_update_other _ _ (Ne.symm hbe)).trans (Heap.get?_push_of_some _ hb)
  have hT₃ : ((h₁.push N).update e (Obj.mapFields (·.setIfInBounds 1 (Value.ref h₁.objs.size)))).get? h₁.objs.size = some N := (Heap.get?_update_other _ _ (Ne.symm hTe)).trans (Heap.get?_push_size h₁ hNf)
  refine ⟨fun b o hbo => keep b o (fun q => by rw [q, hen] at hbo; cases hbo) (kb₁ b o hbo), hl.of_keeps fun b o hb hnf => ?_, ?_, fun b o hb hnf => ?_⟩
  · obtain ⟨sl, hs⟩ := hs₁.2.2 b o hb
    exact ⟨_, keep b _ (hne b o hb hnf) hs, rfl⟩
  · refine ⟨_, _, h₁.objs.size, N, _, he₃, ⟨Obj.cls_mapFields _ _, ?_, ?_⟩, hd₃, by simp [hsz], kb₁.fresh, hTe, hT₃, hNd, ?_⟩
    · rw [Array.getElem?_setIfInBounds_ne (by decide)]; exact h0
    · rw [Array.getElem?_setIfInBounds_ne (by decide)]; exact h2
    · first | (simp; done) | (rcases hpl with rfl | ⟨_, _, _, _, _, _, _, rfl⟩ <;> simp)
  · obtain ⟨sl, hs⟩ := hs₁.2.2 b o hb
    exact ⟨sl, keep b _ (hne b o hb hnf) hs⟩
/-- the first frame notes itself -/
theorem note_first2 {env : Env} {outer : List Env} {L e : Addr} {oe : Obj} {vs : Array Value} {a0 : Value} {Q : Unit → Shared → Prop}
    (hfr : A.frames = some (env :: outer)) (hl : s.heap.FunFrames base (env :: outer)) (hf : env.frame = some L)
    (he : s.heap.get? e = some oe) (hkb : base.StaysIn s.heap) (hen : base.get? e = none) (hd : oe.data = .fields vs) (h0 : vs[0]? = some a0) (h1 : vs[1]? = some .none) (h2 : vs[2]? = some .none)
    (h : ∀ h', Nt2 base (env :: outer) e oe.cls a0 (rawInt L) s.heap h' → Q () { s with heap := h' }) : wpAny M A (noteFrame (.ref e) env) Q E s := by
  unfold noteFrame
  simp only [hf]
  refine wpAny_bind (wpAny_field he hd h1 ?_)
  rw [if_neg (by decide)]
  exact entry2 hfr hl hf he hkb hen hd (Array.getElem?_eq_some_iff.mp h1).1 h0 h2 h
theorem upd_other {h : Heap} {T : Addr} {oT : Obj} {ts : Array Value} (hT : h.get? T = some oT) (hdT : oT.data = .fields ts) (f : Array Value → Array Value) :
    (∀ b, b ≠ T → (h.update T (Obj.mapFields f)).get? b = h.get? b) ∧ h.UpToSlots (h.update T (Obj.mapFields f)) := by
  have other : ∀ b, b ≠ T → (h.update T (Obj.mapFields f)).get? b = h.get? b := fun b hb => Heap.get?_update_other _ _ (Ne.symm hb)
  refine ⟨other, fun b o hb hnf => ⟨o.slots, (other b fun q => ?_).trans hb⟩⟩
  rw [q, hT] at hb
  cases hb
  exact hnf ts hdT
theorem frames_up {h h' : Heap} {l : List Env} (hl : h.FunFrames base l) (u : h.UpToSlots h') : h'.FunFrames base l :=
  hl.of_keeps fun b o hb hnf => by
    obtain ⟨sl, hs⟩ := u b o hb hnf
    exact ⟨_, hs, rfl⟩
/-- a further frame notes itself -/
theorem note_next2 {env : Env} {outer : List Env} {L e : Addr} {cls a0 : Value} {Q : Unit → Shared → Prop}
    (hfr : A.frames = some (env :: outer)) (hl : s.heap.FunFrames base (env :: outer)) (hf : env.frame = some L) (ht : Tr2 s.heap base e cls a0 .none) (hkb : base.StaysIn s.heap) (hen : base.get? e = none)
    (h : ∀ h', Nt2 base (env :: outer) e cls a0 (rawInt L) s.heap h' → Q () { s with heap := h' }) : wpAny M A (noteFrame (.ref e) env) Q E s := by
  obtain ⟨oe, vs, T, oT, ts, he, ⟨rfl, h0, h2⟩, hd, h1, hnT, hTe, hT, hdT, h3⟩ := ht
  unfold noteFrame
  simp only [hf]
  refine wpAny_bind (wpAny_field he hd h1 ?_)
  rw [if_pos (show (Value.ref T != Value.none) = true from by simp)]
  refine wpAny_bind (wpAny_field hT hdT h3 ?_)
  rw [if_neg (show ¬ ((Value.none == rawInt L) = true) from by simp [rawInt])]
  refine wpAny_bind (wpAny_setField hT hdT (Array.getElem?_eq_some_iff.mp h3).1 ?_)
  obtain ⟨other, up⟩ := upd_other hT hdT (·.setIfInBounds 3 Value.none)
  refine entry2 hfr (frames_up hl up) hf ((other e (Ne.symm hTe)).trans he) (fun b o hbo => (other b fun q => by rw [q, hnT] at hbo; cases hbo).trans (hkb b o hbo)) hen hd (Array.getElem?_eq_some_iff.mp h1).1 h0 h2
    fun h' ⟨x1, x2, x3, x4⟩ => h h' ⟨x1, x2, x3, up.trans x4⟩
theorem flight2 {l : List Env} {e : Addr} {cls a0 fl : Value} {Q : Unit → Shared → Prop}
    (hkb : base.StaysIn s.heap) (hl : s.heap.FunFrames base l) (ht : Tr2 s.heap base e cls a0 fl)
    (h : ∀ h', Nt2 base l e cls a0 .none s.heap h' → Q () { s with heap := h' }) :
    wpAny M A (setFlight (.ref e) none) Q E s := by
  obtain ⟨oe, vs, T, oT, ts, he, hcls, hd, h1, hnT, hTe, hT, hdT, h3⟩ := ht
  have hsz3 : 3 < ts.size := (Array.getElem?_eq_some_iff.mp h3).1
  obtain ⟨other, up⟩ := upd_other hT hdT (·.setIfInBounds 3 ((none : Option Addr).elim Value.none fun f => rawInt f))
  unfold setFlight
  refine wpAny_bind (wpAny_field he hd h1 ?_)
  rw [if_pos (show (Value.ref T != Value.none) = true from by simp)]
  refine wpAny_setField hT hdT hsz3 (h _ ⟨fun b o hbo => (other b fun q => by rw [q, hnT] at hbo; cases hbo).trans (hkb b o hbo), frames_up hl up, ?_, up⟩)
  exact ⟨oe, vs, T, _, _, (other e (Ne.symm hTe)).trans he, hcls, hd, h1, hnT, hTe, Heap.get?_update_self _ hT (Obj.isFreed_of_fields (mapFields_data _ hdT)), mapFields_data _ hdT, by simp [hsz3]⟩
end
end Mine
end

section
open PySem PySem.W PyProof.Rows PySem.Spec PySem.Calls
set_option maxRecDepth 100000
namespace Mine
/-- a fault without a context has left its frame -/
def Raised2 (base G : Heap) (l : List Env) (e : Addr) (cls : Value) (t : Addr) (vs : List Value) (news : List (Addr × Obj)) (h : Heap) : Prop :=
  ∃ B, base.StaysIn B ∧ (∀ b o, G.get? b = some o → b ∉ l.filterMap (·.frame) → B.get? b = some o) ∧ (∀ q ∈ news, B.get? q.1 = some q.2 ∧ G.get? q.1 = none) ∧
    B.StaysIn h ∧ h.FunFrames B l ∧ Tr2 h B e cls (.ref t) .none ∧ B.get? e = none ∧ G.get? e = none ∧ G.get? t = none ∧ h.TupAt t vs
theorem raised2_sub {base G : Heap} {l : List Env} {e t : Addr} {cls : Value} {vs : List Value} {news news' : List (Addr × Obj)} {h : Heap} (R : Raised2 base G l e cls t vs news h) (s : ∀ p ∈ news', p ∈ news) : Raised2 base G l e cls t vs news' h := by
  obtain ⟨B, r1, r2, r3, r4⟩ := R
  exact ⟨B, r1, r2, fun q hq => r3 q (s q hq), r4⟩
section
variable {M : Model} {A : Around} {E : Value → Shared → Prop} {s' : Shared} {base g : Heap} {outer : List Env} {L a e t d C : Addr} {m : Str → Option Value} {name : Str} {scope : Scope} {cd : Value} {Q : Unit → Shared → Prop} {news : List (Addr × Obj)} {vs : List Value}
theorem leave_raise2 (K : Below A base outer g) (F : Fr g L s'.heap m) (N : News g L s'.heap ((e, excD C t d) :: (t, tupO vs) :: news)) (hne : ∀ p ∈ news, p.1 ≠ e ∧ p.1 ≠ t)
    (hQ : ∀ h', Raised2 base g outer e (.ref C) t vs news h' → g.UpToSlots h' → Q () { s' with heap := h' }) (hk : scope.kind = .function := by rfl) :
    wpAny M (A.deeper (envOf name scope L a cd)) (leaving (envOf name scope L a cd) (.ref e)) Q E s' := by
  have K' := K.push (name := name) (a := a) (cd := cd) F hk
  have De := N _ (List.Mem.head _)
  have Dt := N _ (List.Mem.tail _ (List.Mem.head _))
  have hfrm : ∀ b, b ∈ (envOf name scope L a cd :: outer).filterMap (·.frame) → b = L ∨ ∃ o', g.get? b = some o' := fun b hm => by
    rcases kts_mem hm with z | z
    · exact .inl z
    · obtain ⟨_, o', ho', _⟩ := K.frames.mem z
      exact .inr ⟨o', ho'⟩
  have keepG : ∀ b o', g.get? b = some o' → b ∉ outer.filterMap (·.frame) → (hideAll s'.heap (e :: t :: (envOf name scope L a cd :: outer).filterMap (·.frame))).get? b = some o' := fun b o' q nm => hideAll_get _ (F.keep b o' q) fun hm => by
    rcases List.mem_cons.mp hm with z | hm
    · rw [z, De.2.2] at q; cases q
    rcases List.mem_cons.mp hm with z | hm
    · rw [z, Dt.2.2] at q; cases q
    rcases kts_mem hm with z | z
    · rw [z, kts_self F] at q; cases q
    · exact nm z
  have st : base.StaysIn (hideAll s'.heap (e :: t :: (envOf name scope L a cd :: outer).filterMap (·.frame))) := fun b o' q => keepG b o' (K.stays b o' q) fun hm => by
    rw [(K.frames.mem hm).1] at q; cases q
  have hl : ∀ q ∈ news, (hideAll s'.heap (e :: t :: (envOf name scope L a cd :: outer).filterMap (·.frame))).get? q.1 = some q.2 ∧ g.get? q.1 = none := fun q hq => by
    have Dq := N q (List.Mem.tail _ (List.Mem.tail _ hq))
    refine ⟨hideAll_get _ Dq.1 fun hm => ?_, Dq.2.2⟩
    rcases List.mem_cons.mp hm with z | hm
    · exact (hne q hq).1 z
    rcases List.mem_cons.mp hm with z | hm
    · exact (hne q hq).2 z
    rcases hfrm _ hm with z | ⟨o', z⟩
    · exact Dq.2.1 z
    · rw [Dq.2.2] at z; cases z
  have hin : ∀ env ∈ (envOf name scope L a cd :: outer), ∀ b, env.frame = some b → b ∈ e :: t :: (envOf name scope L a cd :: outer).filterMap (·.frame) := fun env he b hb => List.Mem.tail _ (List.Mem.tail _ (List.mem_filterMap.mpr ⟨env, he, hb⟩))
  have hen : (hideAll s'.heap (e :: t :: (envOf name scope L a cd :: outer).filterMap (·.frame))).get? e = none := hideAll_none _ (List.Mem.head _)
  unfold leaving
  refine wpAny_bind (note_first2 (a0 := .ref t) (base := hideAll s'.heap (e :: t :: (envOf name scope L a cd :: outer).filterMap (·.frame))) K'.stack (funFrames_hide K'.frames hin) rfl De.1 (fun b o' q => of_hideAll _ q) hen rfl rfl rfl rfl fun h1 x => ?_)
  obtain ⟨x1, x2, x3, x4⟩ := x
  refine flight2 x1 x2 x3 fun h2 y => ?_
  obtain ⟨y1, ⟨_, _, y2⟩, y3, y4⟩ := y
  exact hQ h2 ⟨_, st, keepG, hl, y1, y2, y3, hen, De.2.2, Dt.2.2, Heap.TupAt.of_slots ⟨_, _, Dt.1, rfl, rfl⟩ (x4.trans y4)⟩ ((Heap.UpToSlots.of_keeps F.keep).trans (x4.trans y4))
end
section
variable {prog : Program} {w : World} {A₀ : Around} {E : Value → Shared → Prop} {s' : Shared} {base g G : Heap} {outer : List Env} {L a e t C : Addr} {m : Str → Option Value} {name : Str} {scope : Scope} {cd : Value}
  {vs : List Value} {b₀ : Stmt} {suite : List Stmt} {pos np : Pos} {rest : List ExceptHandler} {Q : Flow → Shared → Prop} {news : List (Addr × Obj)} {KF : Frag}
  {p : Program} {loose : List Str} {mean : ExcName → Option Value} {mg mb : Str → Option Value} {x : Str}
theorem caught2 (R : Raised2 base G (envOf name scope L a cd :: outer) e (.ref C) t vs news s'.heap) (F : Fr g L G m) (K : Below A₀ base outer g) (hsm : G.UpToSlots s'.heap) (XB : KF.In base) (TB : Top p loose mean mg mb base)
    (ex : nsIn KF mainGlobals x = some (some (.ref C))) (q : ktsIn KF C "BaseException" = true)
    (k : ∀ h' g' oe ws, KtsTurn (outer.filterMap (·.frame)) g g' → Fr g' L h' m → News g' L h' ((e, oe) :: news) → oe.cls = .ref C → oe.data = .fields ws → ws[2]? = some .none → Below A₀ base outer g' → KF.In g' → Top p loose mean mg mb g' →
      wpAny (model prog w) ((A₀.deeper (envOf name scope L a cd)).mark (some (.ref e))) (execs (b₀ :: suite) (envOf name scope L a cd)) Q E { s' with heap := h' })
    (hk : scope.kind = .function := by rfl) (hx : (envOf name scope L a cd).kindOf x = some .globalImplicit := by rfl) (hd : (x == ("__debug__" : Str)) = false := by decide)
    (hE : PassesOwnAt (model prog w) ((A₀.deeper (envOf name scope L a cd)).mark (some (.ref e))) (A₀.deeper (envOf name scope L a cd)) (envOf name scope L a cd) E := by passes_own) :
    wpAny (model prog w) (A₀.deeper (envOf name scope L a cd)) (noteFrame (.ref e) (envOf name scope L a cd))
      (fun _ s₂ => wpAny (model prog w) (A₀.deeper (envOf name scope L a cd)) (setFlight (.ref e) none) (fun _ s₃ =>
        wpAny (model prog w) (A₀.deeper (envOf name scope L a cd)) (handleBy (.ref e) (envOf name scope L a cd) (.ExceptHandler (some (.Name x np)) none (b₀ :: suite) pos :: rest)) Q E s₃) E s₂) E s' := by
  obtain ⟨B, hB, hBG, hl, hBh, hfr, hT, hBe, hGe, hGt, htup⟩ := R
  have hL : B.get? L = none := by
    obtain ⟨_, ⟨L', _, hf, hn', _⟩, _⟩ := hfr
    obtain rfl : L = L' := Option.some.inj hf
    exact hn'
  refine note_next2 (Around.frames_deeper K.stack) hfr rfl hT hBh hBe fun h₄ x => ?_
  obtain ⟨x1, x2, x3, x4⟩ := x
  refine flight2 x1 x2 x3 fun h₅ y => ?_
  obtain ⟨y1, y2, y3, y4⟩ := y
  have hsm₅ := x4.trans y4
  obtain ⟨g₅, T₅, F₅, K₅⟩ := kts_ground K F hBG y1 (hsm.trans hsm₅)
  have X₅ : KF.In g₅ := XB.keeps K₅.stays
  have P₅ : TopRead p loose mg mb g₅ := topRead_of (TB.keeps K₅.stays)
  obtain ⟨ob, hob, hobc⟩ : ∃ ob, h₅.get? e = some ob ∧ ob.cls = .ref C := by
    obtain ⟨oe, _, _, _, _, he, hc, _⟩ := y3
    exact ⟨oe, he, hc.1⟩
  obtain ⟨nm, q', N, bs, bm, hdct, sn, sub, ab, col, dd, k0, k1, k2, k3, k5, newId, hC, hbase, hbT⟩ := kts_cls X₅ q
  have hC₅ := F₅.keep _ _ hC
  refine wpAny_handleBy_cons (codeAny_handlers_test (name_K F₅ X₅ P₅ ex ?_ hk hx hd)) (by intro q; cases q)
  refine wpAny_excMatches_sub_self hC₅ hob hobc hbase (codeAny_handlers_suite ?_)
  refine flight2 y1 y2 y3 fun h₆ z => ?_
  obtain ⟨z1, z2, z3, z4⟩ := z
  obtain ⟨g₆, T₆, F₆, K₆⟩ := kts_ground K F hBG z1 ((hsm.trans hsm₅).trans z4)
  obtain ⟨oe, ws, _, _, _, hoe, ⟨hoec, hoe0, hoe2⟩, hoed, _⟩ := z3
  have ne₆ : g₆.get? e = none := T₆.none_ _ (kts_none F.keep hGe)
  have Nl : News g₆ L h₆ news := fun q hq => ⟨z1 _ _ (hl q hq).1, (fun z => by have := (hl q hq).1; rw [z, hL] at this; cases this), T₆.none_ _ (kts_none F.keep (hl q hq).2)⟩
  have N₆ := News.more F₆ Nl hoe (fun es n q => by rw [hoed] at q; cases q) ne₆
  exact wpAny_passesOwnAt hE (k h₆ g₆ oe ws T₆ F₆ N₆ hoec hoed hoe2 K₆ (XB.keeps K₆.stays) (TB.keeps K₆.stays))
end
/-- what a call of a def stands on that raises a fault without a context -/
abbrev Raise2Of (w : World) (mean : ExcName → Option Value) (mg mb : Str → Option Value) (f : Addr) (vs : List Value) (room : Nat) (news : List (Addr × Obj)) (C : Addr) : Prop :=
  ∀ (dp un : Nat) (gd : Option (List Code)) (cn : Str) (cs : Scope) (a : Addr) (ccd : Value) (cl : List (Str × Addr)) (outer : List Env) (A₀ : Around) (base h₀ : Heap) (L : Addr) (m : Str → Option Value) (s : Shared) (Q E : Value → Shared → Prop),
    Below A₀ base outer h₀ → Fr h₀ L s.heap m → (laid.heap_1 w.params).In h₀ → News h₀ L s.heap news → Top hd.view_1 (looseW hd.view_1 [Str.ofString "fraction"]) mean mg mb h₀ → cs.kind = .function →
    dp + room < recursionLimit → un + 8 * room < cLine → (laid.heap_1 w.params).In base → Top hd.view_1 (looseW hd.view_1 [Str.ofString "fraction"]) mean mg mb base →
    (∀ (e t : Addr) (ws : List Value) (h' : Heap) (tk' : Nat) (G : Heap), Fr h₀ L G m → Raised2 base G (envX cn cs L a ccd cl :: outer) e (.ref C) t ws news h' → G.UpToSlots h' → E (.ref e) { s with heap := h', toks := tk' }) →
    wpAny (model PySem.Challenge.rw_nu0021_01.row.prog w) (ktrTop dp un gd cn cs L a ccd cl outer) (call (.ref f) vs) Q E s
end Mine
end

section
open PySem PySem.W PyProof.Rows PySem.Spec PySem.Calls
set_option maxRecDepth 100000
namespace Mine
/-- a fault raised from None while another is handled -/
abbrev excE (C t d e₁ : Addr) : Obj := { cls := .ref C, dict := some d, data := .fields #[.ref t, .none, .ref e₁, .none, .bool true, .none] }
structure RaiseFrom (K : Frag) (C e₁ : Addr) (E : Value → Shared → Prop) (v : Value) (s : Shared) : Prop where
  out : ∃ e t d o₁ ws, v = .ref e ∧ K.In s.heap ∧ s.heap.get? e = some (excD C t d) ∧ e ≠ e₁ ∧ s.heap.get? e₁ = some o₁ ∧ o₁.data = .fields ws ∧ ws[2]? = some .none ∧
    ∀ h', h'.get? e = some (excE C t d e₁) → (∀ b, b ≠ e → h'.get? b = s.heap.get? b) → E (.ref e) { s with heap := h' }
section
variable {prog : Program} {w : World} {A : Around} {E : Value → Shared → Prop} {s : Shared} {K : Frag} {C : Addr} {env : Env}
theorem unchain_none {value slow : Value} {h : Addr} {oh : Obj} {ws : Array Value} {Q : Value → Shared → Prop} (hoh : s.heap.get? h = some oh) (hd : oh.data = .fields ws) (h2 : ws[2]? = some .none) (hq : Q .none s) :
    wpAny (model prog w) A (runValue (.builtin "proto.unchain" ⟨[value, .ref h, slow, .bool false], []⟩)) Q E s := by
  refine wpAny_runValue (codeAny_builtin (b := Builtin.«proto.unchain») (entryFor_of_tree (by kernel_rfl)) ?_)
  unfold Builtin.«proto.unchain»
  refine wpAny_bind (wpAny_field hoh hd h2 ?_)
  rw [if_pos (by decide)]
  wp_walk
  exact hq
theorem raiseNew_handled {α : Type} {e h : Addr} {o oh : Obj} {fs ws : Array Value} {Q : α → Shared → Prop} (hh : A.handled = some (.ref h)) (hne : e ≠ h) (ho : s.heap.get? e = some o) (hod : o.data = .fields fs) (hsz : 2 < fs.size)
    (hoh : s.heap.get? h = some oh) (hd : oh.data = .fields ws) (h2 : ws[2]? = some .none)
    (hE : E (.ref e) { s with heap := s.heap.update e (Obj.mapFields (·.setIfInBounds 2 (.ref h))) }) : wpAny (model prog w) A (raiseNew (.ref e) : Sem α) Q E s := by
  unfold raiseNew
  refine wpAny_bind (wpAny_handled ?_)
  rw [hh]
  dsimp only
  rw [if_pos (show (Value.ref h != Value.ref e) = true from by simp [Ne.symm hne])]
  refine wpAny_bind (wpAny_holding (unchain_none hoh hd h2 ?_))
  refine wpAny_bind (wpAny_setField (i := 2) (x := .ref h) ho hod hsz ?_)
  exact wpAny_throw hE
theorem upd_excD {h : Heap} {e : Addr} {o : Obj} {fs : Array Value} {i : Nat} {v : Value} (ho : h.get? e = some o) (hd : o.data = .fields fs) :
    (h.update e (Obj.mapFields (·.setIfInBounds i v))).get? e = some (Obj.mapFields (·.setIfInBounds i v) o) ∧ (∀ b, b ≠ e → (h.update e (Obj.mapFields (·.setIfInBounds i v))).get? b = h.get? b) :=
  ⟨Heap.get?_update_self _ ho (Obj.isFreed_of_fields (mapFields_data _ hd)), fun b hb => Heap.get?_update_other _ _ (Ne.symm hb)⟩
theorem raiseStmt_from {x c : Sem Value} {e₁ : Addr} {Q : Flow → Shared → Prop} (hf : faultIn K C = true) (hh : A.handled = some (.ref e₁)) (hc : ∀ (s : Shared) (Q : Value → Shared → Prop), Q .none s → wpAny (model prog w) A c Q E s)
    (h : wpAny (model prog w) A x (RaiseFrom K C e₁ E) E s) : wpAny (model prog w) A (raiseStmt env (some x) (some c)) Q E s := by
  unfold raiseStmt
  refine wpAny_bind (wpAny_mono h (fun v s₁ h₁ => ?_) fun _ _ x => x)
  obtain ⟨e, t, dct, o₁, ws, rfl, X, he, hne, ho₁, hd₁, h2, hE⟩ := h₁.out
  obtain ⟨nm, q, N, bs, sn, sub, ab, col, dd, k0, k1, k2, k3, k5, hC⟩ := fault_cls X hf
  have hcB := bmF_base C
  refine wpAny_bind (wpAny_holding (hc _ _ (wpAny_bind (wpAny_pure ?_))))
  obtain ⟨hp, g, d, tk, os⟩ := s₁
  dsimp only at he ho₁
  dsimp only at hC
  have hCe : e ≠ C := by
    rintro rfl
    rw [he] at hC
    cases hC
  have hee := Ne.symm hne
  let f3 : Obj → Obj := Obj.mapFields (·.setIfInBounds 3 Value.none)
  let f4 : Obj → Obj := Obj.mapFields (·.setIfInBounds 4 (Value.bool true))
  obtain ⟨u1, v1⟩ := upd_excD (i := 3) (v := .none) he rfl
  obtain ⟨u2, v2⟩ := upd_excD (i := 4) (v := .bool true) u1 rfl
  have hC2 : ((hp.update e f3).update e f4).get? C = _ := (v2 C (Ne.symm hCe)).trans ((v1 C (Ne.symm hCe)).trans hC)
  have ho2 : ((hp.update e f3).update e f4).get? e₁ = some o₁ := (v2 _ hee).trans ((v1 _ hee).trans ho₁)
  repeat (first | with_reducible refine wpAny_loadPart_at he ?_ | with_reducible refine wpAny_loadPart_at hC ?_ | with_reducible refine wpAny_loadPart_at hC2 ?_ | (with_reducible refine wpAny_isSubtype_exc hC ?_; rw [hcB]) | wp_step)
  obtain ⟨u3, v3⟩ := upd_excD (i := 2) (v := .ref e₁) u2 rfl
  refine raiseNew_handled hh hne u2 rfl (Nat.le_of_ble_eq_true rfl) ho2 hd₁ h2 ?_
  exact hE _ u3 fun b hb => (v3 b hb).trans ((v2 b hb).trans (v1 b hb))
theorem exec_raise_from {x : Expr} {pos cp : Pos} {kk : Nat} {e₁ : Addr} {Q : Flow → Shared → Prop} (hf : faultIn K C = true) (hh : A.handled = some (.ref e₁)) (h : wpAny (model prog w) A (eval x env) (RaiseFrom K C e₁ E) E s) :
    wpAny (model prog w) A (exec (.Raise (some x) (some (.Constant .none kk cp)) pos) env) Q E s := by
  have hc : ∀ (s : Shared) (Q : Value → Shared → Prop), Q .none s → wpAny (model prog w) A (do let v ← eval (.Constant .none kk cp) env; standAt pos; pure v) Q E s := fun s Q hq => by
    obtain ⟨hp, g, d, tk, os⟩ := s
    wp_walk
    exact hq
  rw [arm_exec_Raise]
  first
    | exact wpAny_bind (wpAny_standAt (raiseStmt_from hf hh hc (wpAny_bind (wpAny_mono h (fun v s₃ h₃ => wpAny_bind (wpAny_standAt (wpAny_pure h₃))) fun _ _ x => x))))
    | (simp only [evalOpt, Option.map]; exact wpAny_bind (wpAny_standAt (raiseStmt_from hf hh hc (wpAny_bind (wpAny_mono h (fun v s₃ h₃ => wpAny_bind (wpAny_standAt (wpAny_pure h₃))) fun _ _ x => x)))))
end
theorem RaiseFrom.ofD {K : Frag} {C e₁ e t d L : Addr} {E : Value → Shared → Prop} {s : Shared} {g : Heap} {m : Str → Option Value} {o₁ : Obj} {ws : Array Value} {vs : List Value} {news : List (Addr × Obj)}
    (X : K.In g) (F : Fr g L s.heap m) (N : News g L s.heap ((e, excD C t d) :: (t, tupO vs) :: (e₁, o₁) :: news)) (hne : ∀ p ∈ (e₁, o₁) :: news, p.1 ≠ e ∧ p.1 ≠ t) (hd₁ : o₁.data = .fields ws) (h2 : ws[2]? = some .none)
    (hq : ∀ h', Fr g L h' m → News g L h' ((e, excE C t d e₁) :: (t, tupO vs) :: news) → (∀ p ∈ news, p.1 ≠ e ∧ p.1 ≠ t) → E (.ref e) { s with heap := h' }) : RaiseFrom K C e₁ E (.ref e) s := by
  have De := N _ (List.Mem.head _)
  have Dt := N _ (List.Mem.tail _ (List.Mem.head _))
  have D1 := N _ (List.Mem.tail _ (List.Mem.tail _ (List.Mem.head _)))
  have hne1 := (hne _ (List.Mem.head _)).1
  refine ⟨e, t, d, o₁, ws, rfl, X.keeps F.keep, De.1, Ne.symm hne1, D1.1, hd₁, h2, fun h' h1 h2 => hq h' ?_ ?_ fun p hp => hne p (List.mem_cons_of_mem _ hp)⟩
  · refine ⟨?_, fun b o q => (h2 b fun z => ?_).trans (F.keep b o q), F.above⟩
    · obtain ⟨oL, es, ep, hL, r⟩ := F.ns
      exact ⟨oL, es, ep, (h2 _ (Ne.symm De.2.1)).trans hL, r⟩
    · rw [z, De.2.2] at q
      cases q
  · intro p hp
    rcases List.mem_cons.mp hp with rfl | hp
    · exact ⟨h1, De.2⟩
    rcases List.mem_cons.mp hp with rfl | hp
    · refine ⟨(h2 _ fun z => ?_).trans Dt.1, Dt.2⟩
      dsimp only at z
      have := Dt.1
      rw [z, De.1] at this
      cases this
    · have Dp := N p (List.mem_cons_of_mem _ (List.mem_cons_of_mem _ (List.mem_cons_of_mem _ hp)))
      exact ⟨(h2 _ (hne p (List.mem_cons_of_mem _ hp)).1).trans Dp.1, Dp.2⟩
theorem up_turn {fs : List Addr} {g g' h : Heap} (T : KtsTurn fs g g') (u : g'.UpToSlots h) : g.UpToSlots h := fun b o e hn => by
  obtain ⟨sl, hs⟩ := T.up e
  obtain ⟨sl', hs'⟩ := u _ _ hs hn
  exact ⟨sl', hs'⟩
theorem raised_turn {base g g' : Heap} {l : List Env} {e t : Addr} {cls : Value} {vs : List Value} {news : List (Addr × Obj)} {h : Heap} (T : KtsTurn (l.filterMap (·.frame)) g g') (R : RaisedS base g' l e cls t vs news h) : RaisedS base g l e cls t vs news h := by
  obtain ⟨⟨B, hB, hBG, hl, hfl, hnew⟩, htup⟩ := R
  refine ⟨⟨B, hB, fun b o q nm => hBG b o (T.other b o q nm) nm, fun q hq => ⟨(hl q hq).1, ?_, (hl q hq).2.2⟩, hfl, hnew⟩, htup⟩
  cases z : g.get? q.1 with
  | none => rfl
  | some o =>
    obtain ⟨sl, hs⟩ := T.up z
    have := (hl q hq).2.1
    rw [hs] at this
    cases this
/-- a fault raised from None leaves its frame; the ground turns back -/
theorem leave_from {M : Model} {A : Around} {E : Value → Shared → Prop} {s' : Shared} {base g g₁ : Heap} {outer : List Env} {L a e e₁ t d C : Addr} {m : Str → Option Value} {name : Str} {scope : Scope} {cd : Value} {Q : Unit → Shared → Prop} {news : List (Addr × Obj)} {vs : List Value}
    (K : Below A base outer g) (T : KtsTurn (outer.filterMap (·.frame)) g₁ g) (F : Fr g L s'.heap m) (N : News g L s'.heap ((e, excE C t d e₁) :: (t, tupO vs) :: news)) (hne : ∀ p ∈ news, p.1 ≠ e ∧ p.1 ≠ t)
    (hQ : ∀ h', RaisedS base g₁ outer e (.ref C) t vs news h' → g₁.UpToSlots h' → Q () { s' with heap := h' }) (hk : scope.kind = .function := by rfl) :
    wpAny M (A.deeper (envOf name scope L a cd)) (leaving (envOf name scope L a cd) (.ref e)) Q E s' :=
  leave_raiseD K F N rfl rfl rfl rfl hne (fun h' R U => hQ h' (raised_turn T R) (up_turn T U)) hk
end Mine
end

section
open PySem PySem.W PyProof.Rows PySem.Spec PySem.Calls
set_option maxRecDepth 100000
namespace Mine
/-- a fault in a frame that has noted it, its flight untold -/
def FlewS (base G : Heap) (l : List Env) (e : Addr) (cls : Value) (t : Addr) (vs : List Value) (news : List (Addr × Obj)) (h : Heap) : Prop :=
  (∃ B, base.StaysIn B ∧ (∀ b o, G.get? b = some o → b ∉ l.filterMap (·.frame) → B.get? b = some o) ∧ (∀ q ∈ news, B.get? q.1 = some q.2 ∧ G.get? q.1 = none ∧ base.get? q.1 = none) ∧
    B.StaysIn h ∧ B.get? e = none ∧ h.FunFrames B l ∧ (∃ fl, h.TracedAtW B e cls (.ref t) fl) ∧ B.get? t = none) ∧ h.TupAt t vs
theorem flew_sub {base G : Heap} {l : List Env} {e t : Addr} {cls : Value} {vs : List Value} {news news' : List (Addr × Obj)} {h : Heap} (R : FlewS base G l e cls t vs news h) (s : ∀ p ∈ news', p ∈ news) : FlewS base G l e cls t vs news' h := by
  obtain ⟨⟨B, hB, hBG, hl, r⟩, htup⟩ := R
  exact ⟨⟨B, hB, hBG, fun q hq => hl q (s q hq), r⟩, htup⟩
section
variable {M : Model} {A : Around} {E : Value → Shared → Prop} {s : Shared}
theorem noteFrame_frame {e : Value} {env env' : Env} (h : env.frame = env'.frame) : noteFrame e env = noteFrame e env' := by
  unfold noteFrame PySem.frameOf
  rw [h]
/-- a frame notes a fault, whatever its flight -/
theorem note_any {base : Heap} {env : Env} {outer : List Env} {L e : Addr} {cls a0 fl : Value} {Q : Unit → Shared → Prop}
    (hfr : A.frames = some (env :: outer)) (hl : s.heap.FunFrames base (env :: outer)) (hf : env.frame = some L) (ht : s.heap.TracedAtW base e cls a0 fl) (hkb : base.StaysIn s.heap) (hen : base.get? e = none)
    (h : ∀ h' fl', base.StaysIn h' → h'.FunFrames base (env :: outer) → h'.TracedAtW base e cls a0 fl' → s.heap.UpToSlots h' → Q () { s with heap := h' }) : wpAny M A (noteFrame (.ref e) env) Q E s := by
  have ht' := ht
  obtain ⟨oe, vs, T, oT, ts, he, ⟨rfl, h0⟩, hd, h1, hnT, hTe, hT, hdT, h3⟩ := ht
  unfold noteFrame
  simp only [hf]
  refine wpAny_bind (wpAny_field he hd h1 ?_)
  rw [if_pos (show (Value.ref T != Value.none) = true from by simp)]
  refine wpAny_bind (wpAny_field hT hdT h3 ?_)
  by_cases hfl : (fl == rawInt L) = true
  · rw [if_pos hfl]
    exact wpAny_pure (h s.heap fl hkb hl ht' (Heap.UpToSlots.refl _))
  · rw [if_neg hfl]
    refine wpAny_bind (wpAny_setField hT hdT (Array.getElem?_eq_some_iff.mp h3).1 ?_)
    obtain ⟨other, up⟩ := upd_other hT hdT (·.setIfInBounds 3 Value.none)
    refine wpAny_entryW hfr (frames_up hl up) hf ((other e (Ne.symm hTe)).trans he) (fun b o hbo => (other b fun q => by rw [q, hnT] at hbo; cases hbo).trans (hkb b o hbo)) hen hd (Array.getElem?_eq_some_iff.mp h1).1 h0
      fun h' ⟨x1, x2, x3, x4⟩ => h h' _ x1 x2 x3 (up.trans x4)
theorem leave_flew {base g g₂ : Heap} {outer : List Env} {L a e t : Addr} {m : Str → Option Value} {name : Str} {scope : Scope} {cd : Value} {Q : Unit → Shared → Prop} {news : List (Addr × Obj)} {cls : Value} {vs : List Value}
    (K : Below A base outer g) (F : Fr g L g₂ m) (R : FlewS base g₂ (envOf name scope L a cd :: outer) e cls t vs news s.heap) (hsm : g₂.UpToSlots s.heap)
    (hQ : ∀ h', RaisedS base g outer e cls t vs news h' → g.UpToSlots h' → Q () { s with heap := h' }) :
    wpAny M (A.deeper (envOf name scope L a cd)) (leaving (envOf name scope L a cd) (.ref e)) Q E s := by
  obtain ⟨⟨B, hB, hBG, hl, r1, r2, r3, ⟨fl, r4⟩, hnew⟩, htup⟩ := R
  unfold leaving
  refine wpAny_bind (note_any (Around.frames_deeper K.stack) r3 rfl r4 r1 r2 fun h₁ fl' x1 x2 x3 x4 => ?_)
  refine wpAny_setFlight_noneW x1 x2 x3 fun h₂ y1 y2 y3 y4 => ?_
  have u : s.heap.UpToSlots h₂ := x4.trans fun b o hb hn => ⟨o.slots, y4 b o hb hn⟩
  obtain ⟨_, _, y2⟩ := y2
  exact hQ h₂ ⟨⟨B, hB, fun b o q nm => hBG b o (F.keep b o q) (fun hm => by
      rcases kts_mem hm with z | z
      · rw [z, kts_self F] at q
        cases q
      · exact nm z), fun q hq => ⟨(hl q hq).1, kts_none F.keep (hl q hq).2.1, (hl q hq).2.2⟩, ⟨y1, r2, y2, y3⟩, hnew⟩, htup.of_slots u⟩ ((Heap.UpToSlots.of_keeps F.keep).trans (hsm.trans u))
/-- a comprehension hands a fault on -/
theorem passOn_flew {α : Type} {base G h₀ : Heap} {l : List Env} {e t C : Addr} {oC : Obj} {cls : Value} {vs : List Value} {news : List (Addr × Obj)} {cenv : Env} {w : String} {Q : α → Shared → Prop}
    (R : FlewS base G l e cls t vs ((C, oC) :: news) h₀) (hne : ∀ p ∈ news, p.1 ≠ C) (hlC : C ∉ l.filterMap (·.frame)) (hs : Heap.SameBut C h₀ s.heap) (hsm : G.UpToSlots h₀)
    (hE : ∀ h', FlewS base G l e cls t vs news h' → G.UpToSlots h' → E (.ref e) { s with heap := h' }) : wpAny M A (PySem.passOn w (.ref e) cenv : Sem α) Q E s := by
  obtain ⟨⟨B, hB, hBG, hl, r1, r2, r3, ⟨fl, r4⟩, hnew⟩, htup⟩ := R
  obtain ⟨oe, vs', T, oT, ts, he, hc, hd, h1, hnT, hTe, hT, hdT, h3⟩ := r4
  have hCB := (hl _ (List.Mem.head _)).1
  have hCG := (hl _ (List.Mem.head _)).2.1
  have hCb := (hl _ (List.Mem.head _)).2.2
  dsimp only at hCB hCG hCb
  have heC : e ≠ C := fun z => by rw [z, hCB] at r2; cases r2
  have hTC : T ≠ C := fun z => by rw [z, hCB] at hnT; cases hnT
  have htC : t ≠ C := fun z => by rw [z, hCB] at hnew; cases hnew
  have he' := (hs.2 e heC).trans he
  have hT' := (hs.2 T hTC).trans hT
  have hsz3 : 3 < ts.size := (Array.getElem?_eq_some_iff.mp h3).1
  unfold PySem.passOn
  refine wpAny_bind (wpAny_field he' hd h1 ?_)
  rw [if_neg (show ¬ ((Value.ref T == Value.none) = true) from by simp)]
  unfold setFlight
  refine wpAny_bind (wpAny_bind (wpAny_field he' hd h1 ?_))
  rw [if_pos (show (Value.ref T != Value.none) = true from by simp)]
  refine wpAny_setField hT' hdT hsz3 ?_
  generalize (cenv.frame.elim Value.none fun f => rawInt f) = fl'
  obtain ⟨other, up⟩ := upd_other hT' hdT (·.setIfInBounds 3 fl')
  refine wpAny_throw (hE _ ?_ ?_)
  · have hB' : ∀ b o, (B.hide C).get? b = some o → b ≠ C ∧ B.get? b = some o := fun b o q => by
      have hbC : b ≠ C := fun z => by
        rw [z, show (B.hide C).get? C = none from hideAll_none [C] (List.Mem.head _)] at q
        cases q
      exact ⟨hbC, (Heap.hide_ne B hbC).symm.trans q⟩
    have keep : ∀ b o, b ≠ C → b ≠ T → h₀.get? b = some o → (s.heap.update T (Obj.mapFields (·.setIfInBounds 3 fl'))).get? b = some o := fun b o q1 q2 q => (other b q2).trans ((hs.2 b q1).trans q)
    refine ⟨⟨B.hide C, fun b o q => (Heap.hide_ne B (fun z => by rw [z, hCb] at q; cases q)).trans (hB b o q), fun b o q nm => (Heap.hide_ne B (fun z => by rw [z, hCG] at q; cases q)).trans (hBG b o q nm),
      fun q hq => ⟨(Heap.hide_ne B (hne q hq)).trans (hl q (List.mem_cons_of_mem _ hq)).1, (hl q (List.mem_cons_of_mem _ hq)).2⟩, fun b o q => ?_, (Heap.hide_ne B heC).trans r2, ?_, ?_, (Heap.hide_ne B htC).trans hnew⟩, ?_⟩
    · obtain ⟨q1, q2⟩ := hB' b o q
      exact keep b o q1 (fun z => by rw [z, hnT] at q2; cases q2) (r1 b o q2)
    · have mem : ∀ L ∈ l.filterMap (·.frame), L ≠ C := fun L hL z => hlC (z ▸ hL)
      clear hBG hE hne hl hlC
      induction l with
      | nil => trivial
      | cons env rest ih =>
        obtain ⟨k1, ⟨L, o, k2, k3, k4, k5⟩, k6⟩ := r3
        have hLC : L ≠ C := mem L (List.mem_filterMap.mpr ⟨env, List.Mem.head _, k2⟩)
        refine ⟨k1, ⟨L, o, k2, (Heap.hide_ne B hLC).trans k3, keep L o hLC (fun z => ?_) k4, k5⟩, ih k6 fun L' hL' => mem L' ?_⟩
        · rw [z, hT] at k4
          cases k4
          exact k5 ts hdT
        · obtain ⟨e9, he9, hf9⟩ := List.mem_filterMap.mp hL'
          exact List.mem_filterMap.mpr ⟨e9, List.Mem.tail _ he9, hf9⟩
    · exact ⟨fl', oe, vs', T, _, _, (other e (Ne.symm hTe)).trans he', hc, hd, h1, (Heap.hide_ne B hTC).trans hnT, hTe, Heap.get?_update_self _ hT' (Obj.isFreed_of_fields (mapFields_data _ hdT)), mapFields_data _ hdT, by simp [hsz3]⟩
    · obtain ⟨o, n, ho, hcl, hdt⟩ := htup
      exact ⟨o, n, keep t o htC (fun z => by rw [z, hT] at ho; cases ho; rw [hdT] at hdt; cases hdt) ho, hcl, hdt⟩
  · intro b o q hn
    obtain ⟨sl, q1⟩ := hsm b o q hn
    have hbC : b ≠ C := fun z => by rw [z, hCG] at q; cases q
    exact up b _ ((hs.2 b hbC).trans q1) hn |>.imp fun _ x => x
end
end Mine
end

section
open PySem PySem.W PyProof.Rows PySem.Spec PySem.Calls
set_option maxRecDepth 100000
namespace Mine
section
variable {prog : Program} {w : World} {A : Around} {E : Value → Shared → Prop} {s : Shared} {h₀ base : Heap} {L : Addr} {m : Str → Option Value} {env env' : Env} {outer : List Env}
/-- what an element that raises leaves behind -/
def ThrowX (A : Around) (E : Value → Shared → Prop) (base h₀ : Heap) (L : Addr) (m : Str → Option Value) (env env' : Env) (outer : List Env) (C : Addr) (oC : Obj) (s₁ : Shared) (v : Value) (s' : Shared) : Prop :=
  ∃ e t ws G cls h' tk' news, v = .ref e ∧ s' = { s₁ with heap := h', toks := tk' } ∧ Fr h₀ L G m ∧ RaisedS base G (env' :: outer) e cls t ws ((C, oC) :: news) h' ∧ G.UpToSlots h' ∧ A.frames = some (env' :: outer) ∧ env'.frame = env.frame ∧ env'.frame = some L ∧
    C ∉ (env' :: outer).filterMap (·.frame) ∧ (∀ p ∈ news, p.1 ≠ C) ∧ ∀ h'', FlewS base G (env' :: outer) e cls t ws news h'' → G.UpToSlots h'' → E (.ref e) { s₁ with heap := h'', toks := tk' }
/-- a comprehension over a list of the ledger whose first element raises -/
def SrcX (prog : Program) (w : World) (A : Around) (E : Value → Shared → Prop) (base h₀ : Heap) (L : Addr) (m : Str → Option Value) (env env' : Env) (outer : List Env) (elt : Expr) (x : Str) (scope : Scope) (cl : List (Str × Addr)) (xv : Value) (s₁ : Shared) : Prop :=
  ∃ ax its v news k, xv = .ref ax ∧ A.handled = none ∧ Fr h₀ L s₁.heap m ∧ News h₀ L s₁.heap news ∧ (ax, ({ cls := .type "list", data := .seq its k } : Obj)) ∈ news ∧ its[0]? = some v ∧
    ∀ I oI C oC D m₂ h tk, LCg.NsObj oC m₂ → m₂ x = some v → Fr h₀ L h m → News h₀ L h ((I, oI) :: (C, oC) :: (D, LCg.lst []) :: news) → LCg.Off3 I C D news → ((@Ne Nat I C) ∧ (@Ne Nat I D) ∧ (@Ne Nat C D)) →
      wpAny (model prog w) A (eval elt (compEnvC scope cl C env)) (fun _ _ => False) (ThrowX A E base h₀ L m env env' outer C oC s₁) { s₁ with heap := h, toks := tk }
theorem ListComp_X {elt iter : Expr} {x : Str} {px : Pos} {scope : Scope} {cl : List (Str × Addr)} {pos : Pos} {Q : Value → Shared → Prop}
    (hclos : closureFor scope env = pure cl) (hcell : ∀ y ∈ scope.names, y.2 ≠ .cell) (hkind : scope.kind = .function)
    (hnames : ∀ y ∈ scope.names, y.2 = .local → scope.names.lookup y.1 = some .local) (hx : scope.names.lookup x = some .local)
    (h : wpAny (model prog w) A (eval iter env) (SrcX prog w A E base h₀ L m env env' outer elt x scope cl) E s)
    (hs : ∀ x, foldedSetIterable iter env x = pure x := by intro _; rfl) :
    wpAny (model prog w) A (eval (.ListComp elt [⟨.Name x px, iter, [], 0⟩] scope pos) env) Q E s := by
  rw [eval_ListComp]
  refine wpAny_comprehension_free (use := none) rfl hs hclos hkind hnames (wpAny_mono h (fun xv s₁ h₁ => ?_) fun _ _ e => e)
  obtain ⟨ax, its, v, news, k, rfl, hh, F, N, hm, hv, R⟩ := h₁
  have hl : s₁.heap.IsList ax its := ⟨_, N.get hm, rfl, _, rfl⟩
  have hlt : ax < s₁.heap.objs.size := by obtain ⟨_, e, _⟩ := hl; exact Heap.lt_size e
  refine wpAny_pyIter_list hl ?_
  have hpos : 0 < its.size := (Array.getElem?_eq_some_iff.mp hv).1
  have W := Walks.list (prog := prog) (w := w) hh s₁.heap.objs.size ax (Nat.ne_of_lt hlt) its
  generalize hI : s₁.heap.objs.size = I at W
  have upI : ∀ b o, s₁.heap.get? b = some o → (s₁.heap.push { cls := .type "list_iterator", data := .fields #[.ref ax, .int 0 0] }).get? b = some o := fun b o e => Heap.get?_push_of_some _ e
  have hIt : (s₁.heap.push { cls := .type "list_iterator", data := .fields #[.ref ax, .int 0 0] }).get? I = some { cls := .type "list_iterator", data := .fields #[.ref ax, .int 0 0] } := by rw [← hI]; exact Heap.get?_push_size _ rfl
  generalize hH1 : s₁.heap.push { cls := .type "list_iterator", data := .fields #[.ref ax, .int 0 0] } = H1 at upI hIt ⊢
  have szI : H1.objs.size = I + 1 := by rw [← hH1, Heap.size_push, hI]
  have oldI : ∀ b o, s₁.heap.get? b = some o → b < I := fun b o e => hI ▸ Heap.lt_size e
  have fresh₀ : ∀ a, I ≤ a → h₀.get? a = none := fun a ha => by
    cases e : h₀.get? a with
    | none => rfl
    | some o' => exact absurd (oldI _ _ (F.keep a o' e)) (Nat.not_lt.mpr ha)
  refine wpAny_newObj_type (wpAny_newFunctionEnv hcell (by intro y hy; simp at hy) (fun h₁ hns₁ hsb₁ => ?_) hkind)
  dsimp only at hns₁ hsb₁ ⊢
  generalize hH2 : H1.push { cls := .type "list", dict := none, data := .seq ([] : List Value).toArray } = H2 at hns₁ hsb₁ ⊢
  have szD : H2.objs.size = I + 2 := by rw [← hH2, Heap.size_push, szI]
  rw [szI]
  generalize hD : I + 1 = D at szI ⊢
  generalize hC : H2.objs.size = C at hns₁ hsb₁ ⊢
  have hC2 : C = I + 2 := by rw [← hC, szD]
  have hIC : I ≠ C := by rw [hC2]; exact Nat.ne_of_lt (Nat.lt_add_of_pos_right (by decide))
  have hID : I ≠ D := by rw [← hD]; exact Nat.ne_of_lt (Nat.lt_succ_self _)
  have hCD : C ≠ D := by rw [hC2, ← hD]; exact Nat.ne_of_gt (Nat.lt_succ_self _)
  have hLlt : L < I := hI ▸ F.ns.lt
  have below : ∀ b, b < I → b ≠ I ∧ b ≠ C ∧ b ≠ D := fun b hb => ⟨Nat.ne_of_lt hb, by rw [hC2]; exact Nat.ne_of_lt (Nat.lt_of_lt_of_le hb (Nat.le_add_right _ _)), by rw [← hD]; exact Nat.ne_of_lt (Nat.lt_succ_of_lt hb)⟩
  have up2 : ∀ b o, H1.get? b = some o → H2.get? b = some o := fun b o e => hH2 ▸ Heap.get?_push_of_some _ e
  have up1 : ∀ b o, b ≠ C → H2.get? b = some o → h₁.get? b = some o := fun b o hb e => hsb₁.extBut b o hb (Heap.get?_push_of_some _ e)
  have hacc : h₁.get? D = some (LCg.lst []) := up1 _ _ (Ne.symm hCD) (hH2 ▸ (szI ▸ Heap.get?_push_size _ rfl))
  have hI1 : h₁.get? I = some { cls := .type "list_iterator", data := .fields #[.ref ax, .int 0 0] } := up1 _ _ hIC (up2 _ _ hIt)
  have old : ∀ b o, s₁.heap.get? b = some o → h₁.get? b = some o := fun b o e => up1 b o (below b (oldI b o e)).2.1 (up2 _ _ (upI _ _ e))
  have hst₁ : h₁.IsListIter I ax 0 ∧ h₁.IsList ax its := ⟨⟨_, hI1, rfl, rfl⟩, by obtain ⟨o, e, r⟩ := hl; exact ⟨o, old _ _ e, r⟩⟩
  have off : ∀ p ∈ news, p.1 ≠ I ∧ p.1 ≠ C ∧ p.1 ≠ D := fun p hp => below _ (oldI _ _ (N p hp).1)
  have hCL : C ≠ L := Ne.symm (below L hLlt).2.1
  have hC₀ := fresh₀ C (by rw [hC2]; exact Nat.le_add_right _ _)
  have loop : ∀ s₃ : Shared, s₃ = { s₁ with heap := h₁, toks := s₁.toks + ([] : List (Str × Value)).length } →
      codeAny (model prog w) A (.compLoop (.ListComp elt [⟨.Name x px, iter, [], 0⟩] scope pos) 0 (.ref I) (.ref D) (compEnvC scope cl C env)) (compPost (model prog w) A E none Q (.ref D) C) s₃ := by
    rintro s₃ rfl
    refine codeAny_compLoop_tests (fun k s' => s' = { s₁ with heap := h₁, toks := s₁.toks + ([] : List (Str × Value)).length }) ?_ 1 rfl
    rintro k s' rfl
    refine W.item 0 _ _ _ hpos hst₁ fun v' h₂ tk₂ hPv hst₂ hk₂ => ?_
    obtain rfl : v = v' := by
      have := hPv.symm.trans hv
      exact (Option.some.inj this).symm
    refine wpAny_assign_Name (wpAny_storeName_local (lookup_relabel_local hx) (hns₁.at' fun o e => hk₂ _ o (by simpa using Ne.symm hIC) e) (fun h₃ hn₃ hs₃ => ?_) (by simp [compEnvC, relabel, hkind]))
    refine wpAny_tests_nil ?_
    simp only [if_true]
    obtain ⟨oI, heI, _⟩ := hst₂.1
    obtain ⟨oC, heC, hoC⟩ := LCg.ns_obj hn₃
    have F₁ : Fr h₀ L h₁ m := F.keeps old
    have F₃ : Fr h₀ L h₃ m := (LCg.fr_but F₁ hk₂ (below L hLlt).1 (fresh₀ I (Nat.le_refl _))).change hs₃ hCL hC₀
    have N₁ : News h₀ L h₁ ((D, LCg.lst []) :: news) := fun p hp => by
      rcases List.mem_cons.mp hp with rfl | hp
      · exact ⟨hacc, Ne.symm (below L hLlt).2.2, fresh₀ D (by rw [← hD]; exact Nat.le_succ _)⟩
      · exact ⟨old _ _ (N p hp).1, (N p hp).2⟩
    have N₂ : News h₀ L h₂ ((D, LCg.lst []) :: news) := LCg.news_but N₁ hk₂ fun p hp => by
      rcases List.mem_cons.mp hp with rfl | hp
      · exact Ne.symm hID
      · exact (off p hp).1
    have N₃ : News h₀ L h₃ ((I, oI) :: (C, oC) :: (D, LCg.lst []) :: news) := fun p hp => by
      rcases List.mem_cons.mp hp with rfl | hp
      · exact ⟨hs₃.extBut _ _ hIC heI, Ne.symm (below L hLlt).1, fresh₀ I (Nat.le_refl _)⟩
      rcases List.mem_cons.mp hp with rfl | hp
      · exact ⟨heC, hCL, hC₀⟩
      · have z := N₂ p hp
        refine ⟨hs₃.extBut _ _ ?_ z.1, z.2⟩
        rcases List.mem_cons.mp hp with rfl | hp
        · exact Ne.symm hCD
        · exact (off p hp).2.1
    refine wpAny_mono (R I oI C oC D _ h₃ _ hoC (by simp) F₃ N₃ (LCg.Off3.of off) ⟨hIC, hID, hCD⟩) (fun y s₄ h₄ => h₄.elim) fun ev s₄ h₄ => ?_
    obtain ⟨e, t, ws, G, cls, h₅, tk₅, news₅, rfl, rfl, FG, RS, U, hfr, hfe, hfL, hCf, hnC, hE⟩ := h₄
    unfold notedBy
    rw [noteFrame_frame (env' := env') (show (compEnvC scope cl C env).frame = env'.frame from hfe.symm)]
    obtain ⟨⟨B, hB, hBG, hlB, hfl, hnew⟩, htup⟩ := RS
    refine wpAny_looks_onW hfr hfL hfl fun h₆ hheld hsm => ?_
    obtain ⟨x1, x2, x3, x4⟩ := hheld
    have hCB := (hlB _ (List.Mem.head _)).1
    refine ⟨_, hoC.ns (x1 _ _ hCB), fun h₇ hs₇ cenv _ => ?_⟩
    refine passOn_flew (news := news₅) (C := C) (oC := oC) (cls := cls) (t := t) (vs := ws) (base := base) (G := G) (l := env' :: outer) (h₀ := h₆)
      ⟨⟨B, hB, hBG, hlB, x1, x2, x3, ⟨_, x4⟩, hnew⟩, htup.of_slots hsm⟩ hnC hCf hs₇ (U.trans hsm) fun h' R' U' => hE h' R' U'
  exact codeAny_compStart_list (loop _ rfl) (W.self 0 _ _ _ hst₁ (loop _ rfl))
theorem ListComp_XE {elt iter : Expr} {x : Str} {px : Pos} {scope : Scope} {cl : List (Str × Addr)} {pos : Pos} {Q : Value → Shared → Prop} (_F₀ : Fr h₀ L s.heap m)
    (hclos : closureFor scope env = pure cl) (hcell : ∀ y ∈ scope.names, y.2 ≠ .cell) (hkind : scope.kind = .function)
    (hnames : ∀ y ∈ scope.names, y.2 = .local → scope.names.lookup y.1 = some .local) (hx : scope.names.lookup x = some .local)
    (h : wpAny (model prog w) A (eval iter env) (SrcX prog w A E base h₀ L m env env outer elt x scope cl) E s)
    (hs : ∀ x, foldedSetIterable iter env x = pure x := by intro _; rfl) :
    wpAny (model prog w) A (eval (.ListComp elt [⟨.Name x px, iter, [], 0⟩] scope pos) env) Q E s := ListComp_X hclos hcell hkind hnames hx h hs
theorem SrcX.intro {elt : Expr} {x : Str} {scope : Scope} {cl : List (Str × Addr)} {s₁ : Shared} {ax : Addr} {its : Array Value} {v : Value} {news : List (Addr × Obj)} {k : Nat} (hh : A.handled = none) (F : Fr h₀ L s₁.heap m) (N : News h₀ L s₁.heap news)
    (hm : (ax, ({ cls := .type "list", data := .seq its k } : Obj)) ∈ news) (hv : its[0]? = some v)
    (h : ∀ I oI C oC D m₂ h tk, LCg.NsObj oC m₂ → m₂ x = some v → Fr h₀ L h m → News h₀ L h ((I, oI) :: (C, oC) :: (D, LCg.lst []) :: news) → LCg.Off3 I C D news → ((@Ne Nat I C) ∧ (@Ne Nat I D) ∧ (@Ne Nat C D)) →
      wpAny (model prog w) A (eval elt (compEnvC scope cl C env)) (fun _ _ => False) (ThrowX A E base h₀ L m env env' outer C oC s₁) { s₁ with heap := h, toks := tk }) :
    SrcX prog w A E base h₀ L m env env' outer elt x scope cl (.ref ax) s₁ := ⟨ax, its, v, news, k, rfl, hh, F, N, hm, hv, h⟩
theorem ThrowX.intro {C e t : Addr} {oC : Obj} {s₁ : Shared} {ws : List Value} {G h' : Heap} {cls : Value} {tk' : Nat} {news all : List (Addr × Obj)} (FG : Fr h₀ L G m) (R : RaisedS base G (env' :: outer) e cls t ws all h') (U : G.UpToSlots h') (hA : A.frames = some (env' :: outer)) (h1 : env'.frame = env.frame) (h2 : env'.frame = some L)
    (ho : ∀ b ∈ outer.filterMap (·.frame), ∃ o, h₀.get? b = some o) (hm : (C, oC) ∈ all) (hC0 : h₀.get? C = none) (hCL : C ≠ L) (hs : ∀ p ∈ news, p ∈ all) (hn : ∀ p ∈ news, p.1 ≠ C)
    (hE : ∀ h'', FlewS base G (env' :: outer) e cls t ws news h'' → G.UpToSlots h'' → E (.ref e) { s₁ with heap := h'', toks := tk' }) :
    ThrowX A E base h₀ L m env env' outer C oC s₁ (.ref e) { s₁ with heap := h', toks := tk' } :=
  ⟨e, t, ws, G, cls, h', tk', news, rfl, rfl, FG, raised_sub R fun p hp => (List.mem_cons.mp hp).elim (fun z => z ▸ hm) (hs p), U, hA, h1, h2, (fun hb => (frame_mem h2 hb).elim (fun z => hCL z) fun z => by
    obtain ⟨o, q⟩ := ho _ z
    rw [hC0] at q
    cases q), hn, hE⟩
end
end Mine
end

section
open PySem PySem.W PyProof.Rows PySem.Spec PySem.Calls
set_option maxRecDepth 100000
namespace Mine
section
variable {prog : Program} {w : World} {A : Around} {s : Shared} {h₀ : Heap} {L : Addr} {m : Str → Option Value} {env : Env} {elt : Expr} {x : Str} {scope : Scope} {cl : List (Str × Addr)} {rest : List (Addr × Obj)} {Fin : List Value → List (Addr × Obj) → Prop}
/-- a turn's end that has drawn from the source at l -/
def SrcEnd (h₀ : Heap) (L : Addr) (m : Str → Option Value) (s : Shared) (P : Value → Prop) (l : Addr) (rest : List (Addr × Obj)) (y : Value) (s₂ : Shared) : Prop :=
  ∃ h' tk' a b ta tb n, P y ∧ 0 ≤ a ∧ (0 ≤ b ∧ b < 2147483647) ∧ s₂ = { s with heap := h', toks := tk' } ∧ Fr h₀ L h' m ∧ News h₀ L h' ((l, listOf #[.int a ta, .int b tb] n) :: rest)
theorem SrcEnd.intro {P : Value → Prop} {l : Addr} {y : Value} {h' : Heap} {tk' : Nat} {a b : Int} {ta tb : Tok} {n : Nat} {all : List (Addr × Obj)} (e : P y) (ha : 0 ≤ a) (hb : 0 ≤ b ∧ b < 2147483647) (F : Fr h₀ L h' m)
    (N : News h₀ L h' ((l, listOf #[.int a ta, .int b tb] n) :: all)) (hs : ∀ p ∈ rest, p ∈ all) : SrcEnd h₀ L m s P l rest y { s with heap := h', toks := tk' } :=
  ⟨h', tk', a, b, ta, tb, n, e, ha, hb, rfl, F, fun p hp => N p ((List.mem_cons.mp hp).elim (fun z => z ▸ List.Mem.head _) fun z => List.Mem.tail _ (hs p z))⟩
theorem src_turns {Pi : Nat → Value → Prop} (P : Value → Prop) (l : Addr)
    (turn : ∀ (a b : Int) (ta tb : Tok) (n : Nat) ys I oI C oC D m₂ h tk (E' : Value → Shared → Prop), 0 ≤ a → 0 ≤ b ∧ b < 2147483647 → LCg.NsObj oC m₂ → Fr h₀ L h m → News h₀ L h ((l, listOf #[.int a ta, .int b tb] n) :: (I, oI) :: (C, oC) :: (D, LCg.lst ys) :: rest) →
      (∀ p ∈ (I, oI) :: (C, oC) :: (D, LCg.lst ys) :: rest, p.1 ≠ l) →
      wpAny (model prog w) A (eval elt (compEnvC scope cl C env)) (SrcEnd h₀ L m s P l ((I, oI) :: (C, oC) :: (D, LCg.lst ys) :: rest)) E' { s with heap := h, toks := tk })
    (hl : ∀ p ∈ rest, p.1 ≠ l) (k₀ : Nat)
    (fin : ∀ ys (a b : Int) (ta tb : Tok) (n : Nat), ys.length = k₀ → (∀ y ∈ ys, P y) → 0 ≤ a → 0 ≤ b ∧ b < 2147483647 → Fin ys ((l, listOf #[.int a ta, .int b tb] n) :: rest)) :
    ∀ k i ys (a b : Int) (ta tb : Tok) (n : Nat), ys.length + k = k₀ → (∀ y ∈ ys, P y) → 0 ≤ a → 0 ≤ b ∧ b < 2147483647 → LCg.CompRest prog w A h₀ L m env elt x scope cl s (fun _ => True) Pi Fin k i ys ((l, listOf #[.int a ta, .int b tb] n) :: rest) := by
  intro k
  induction k with
  | zero =>
    intro i ys a b ta tb n hy hP ha hb
    exact LCg.CompRest.zero (fin ys a b ta tb n hy hP ha hb)
  | succ k ih =>
    intro i ys a b ta tb n hy hP ha hb
    refine LCg.CompRest.succ ?_
    rintro v I oI C oC D m₂ h tk E' _ hC hx F N off ne
    have off1 := off.mem _ (List.Mem.head _)
    dsimp only at off1
    have hne : ∀ p ∈ (I, oI) :: (C, oC) :: (D, LCg.lst ys) :: rest, p.1 ≠ l :=
      List.forall_mem_cons.mpr ⟨Ne.symm off1.1, List.forall_mem_cons.mpr ⟨Ne.symm off1.2.1, List.forall_mem_cons.mpr ⟨Ne.symm off1.2.2, hl⟩⟩⟩
    have N' : News h₀ L h ((l, listOf #[.int a ta, .int b tb] n) :: (I, oI) :: (C, oC) :: (D, LCg.lst ys) :: rest) := fun p hp => N p (by
      simp only [List.mem_cons] at hp ⊢
      rcases hp with h | h | h | h | h <;> simp [h])
    refine wpAny_mono (turn a b ta tb n ys I oI C oC D m₂ h tk E' ha hb hC F N' hne) (fun y s₂ q => ?_) fun _ _ e => e
    obtain ⟨h', tk', a', b', ta', tb', n', hPy, ha', hb', rfl, F', N''⟩ := q
    refine ⟨h', tk', (l, listOf #[.int a' ta', .int b' tb'] n') :: rest, rfl, F', fun p hp => N'' p ?_, ?_, trivial, ih (i + 1) _ a' b' ta' tb' n' (by simp; omega) ?_ ha' hb'⟩
    · simp only [List.mem_cons] at hp ⊢
      rcases hp with h | h | h | h | h <;> simp [h]
    · exact LCg.Off3.of (List.forall_mem_cons.mpr ⟨off1, fun p hp => off.mem p (List.mem_cons_of_mem _ hp)⟩)
    · intro y' hy'
      rcases List.mem_append.mp hy' with h | h
      · exact hP y' h
      · rw [List.mem_singleton.mp h]
        exact hPy
end
end Mine
end

section
open PySem PySem.W PyProof.Rows PySem.Spec PySem.Calls
set_option maxRecDepth 100000
namespace Mine
theorem turn_fr {g g' h : Heap} {L : Addr} {m : Str → Option Value} (T : KtsTurn [] g g') (F : Fr g' L h m) : Fr g L h m :=
  ⟨F.ns, fun b o e => F.keep b o (T.other b o e (fun hm => nomatch hm)), T.size ▸ F.above⟩
theorem turn_news {g g' h : Heap} {L : Addr} {news : List (Addr × Obj)} (T : KtsTurn [] g g') (N : News g' L h news) : News g L h news := fun p hp => by
  refine ⟨(N p hp).1, (N p hp).2.1, ?_⟩
  cases q : g.get? p.1 with
  | none => rfl
  | some o =>
    have z := T.other _ _ q (fun hm => nomatch hm)
    rw [(N p hp).2.2] at z
    cases z
section
variable {prog : Program} {w : World} {A₀ A : Around} {s : Shared} {base h₀ : Heap} {env : Env} {L : Addr} {m : Str → Option Value} {news : List (Addr × Obj)} {K : Frag} {p : Program} {loose : List Str} {mean : ExcName → Option Value} {mg mb : Str → Option Value}
    {R : Result → Shared → Prop} {name qual : Str} {params : Arguments} {body : List Stmt} {scope : Scope} {dV kV doc pm cdv ct oc : Value} {an od : Option Addr} {osl : Array (Option Value)} {f : Addr} {args : Args} {binds : List (Str × Value)}
/-- code_defT by a caller that has no frame under it -/
theorem code_defT0 (B : Below A₀ base [] h₀) (F : Fr h₀ L s.heap m) (X₀ : K.In h₀) (N : News h₀ L s.heap news) (T : Top p loose mean mg mb h₀) (XB : K.In base) (TB : Top p loose mean mg mb base)
    (hA : A.frames = some [env]) (hf : env.frame = some L) (hke : env.scope.kind = .function)
    (ho : K.lookup f = some ⟨oc, od, .func (fnOf name qual params body scope dV kV doc pm an cdv ct), osl⟩) (hcd : codeIn K cdv qual = true) (hroom : A.depth < recursionLimit)
    (hbind : BindsTo s (fnOf name qual params body scope dV kV doc pm an cdv ct) args binds) (hloc : ∀ y ∈ binds, scope.names.lookup y.1 = some .local)
    (h : ∀ g L' h₁, Fr h₀ L g m → Fr g L' h₁ (fun y => binds.reverse.lookup y) → News g L' h₁ news → Below A base [env] g → K.In g → Top p loose mean mg mb g → KtsDicts ([env].filterMap (·.frame)) g →
      wpAny (model prog w) (A.deeper (envOf qual scope L' f cdv)) (execs body (envOf qual scope L' f cdv))
        (fun fl s' => LeaveS0 ([env].filterMap (·.frame)) h₀ L m g R (match fl with | .ret v => v | _ => .none) s')
        (fun e s' => wpAny (model prog w) (A.deeper (envOf qual scope L' f cdv)) (leaving (envOf qual scope L' f cdv) e) (fun _ s'' => R (.error e) s'') (fun e' s'' => R (.error e') s'') s')
        { s with heap := h₁, toks := s.toks + binds.length })
    (hco : scope.isCoroutine = false) (hgen : scope.isGenerator = false) (hk : scope.kind = .function)
    (hcell : ∀ x ∈ scope.names, x.2 ≠ .cell) : codeAny (model prog w) A (.call (.ref f) args) R s :=
  code_defT B F X₀ N T XB TB ktsDicts_nil hA hf hke ho hcd hroom hbind hloc (fun g L' h₁ FG F' N' B' X' T' D' => wpAny_mono (h g L' h₁ FG F' N' B' X' T' D') (fun fl s' hl => by
    obtain ⟨g', L'', m', news', T1, F1, N1, k⟩ := hl
    exact .inr ⟨g', L'', m', news', T1, F1, N1, fun h₀' T0 F0 N0 _ _ _ _ => k (turn_fr T0 F0) (turn_news T0 N0)⟩) fun _ _ y => y) hco hgen hk hcell
end
/-- a call from a frame with none under it -/
abbrev CallOf0 (w : World) (mean : ExcName → Option Value) (mg mb : Str → Option Value) (f : Addr) (vs : List Value) (room : Nat) (news : List (Addr × Obj))
    (G : Heap → Addr → (Str → Option Value) → Shared → (Value → Shared → Prop) → Prop) : Prop :=
  ∀ (dp un : Nat) (gd : Option (List Code)) (cn : Str) (cs : Scope) (a : Addr) (ccd : Value) (cl : List (Str × Addr)) (A₀ : Around) (base h₀ : Heap) (L : Addr) (m : Str → Option Value) (s : Shared) (Q E : Value → Shared → Prop),
    Below A₀ base [] h₀ → Fr h₀ L s.heap m → (laid.heap_1 w.params).In h₀ → News h₀ L s.heap news → Top hd.view_1 (looseW hd.view_1 [Str.ofString "fraction"]) mean mg mb h₀ → cs.kind = .function →
    dp + room < recursionLimit → un + 8 * room < cLine → (laid.heap_1 w.params).In base → Top hd.view_1 (looseW hd.view_1 [Str.ofString "fraction"]) mean mg mb base → G h₀ L m s Q →
    wpAny (model PySem.Challenge.rw_nu0021_01.row.prog w) (ktrTop dp un gd cn cs L a ccd cl []) (call (.ref f) vs) Q E s
/-- a part of a ledger, picked sign by sign -/
theorem sub_skip {x : Addr × Obj} {new t : List (Addr × Obj)} (h : ∀ p ∈ new, p ∈ t) : ∀ p ∈ new, p ∈ x :: t := fun p hp => List.mem_cons_of_mem _ (h p hp)
theorem sub_keep {x : Addr × Obj} {new t : List (Addr × Obj)} (h : ∀ p ∈ new, p ∈ t) : ∀ p ∈ x :: new, p ∈ x :: t := fun p hp => (List.mem_cons.mp hp).elim (fun z => z ▸ List.Mem.head _) fun z => List.mem_cons_of_mem _ (h p z)
theorem sub_same {t : List (Addr × Obj)} : ∀ p ∈ t, p ∈ t := fun _ hp => hp
theorem pick1 {g h : Heap} {L : Addr} {x : Addr × Obj} {all rest : List (Addr × Obj)} (N : News g L h all) (hx : x ∈ all) (hr : ∀ p ∈ rest, p ∈ all) : News g L h (x :: rest) := fun p hp => by
  rcases List.mem_cons.mp hp with rfl | hp
  · exact N _ hx
  · exact N _ (hr p hp)
theorem pick2 {g h : Heap} {L : Addr} {x c : Addr × Obj} {all rest : List (Addr × Obj)} (N : News g L h all) (hx : x ∈ all) (hc : c ∈ all) (hr : ∀ p ∈ rest, p ∈ all) : News g L h (x :: c :: rest) := fun p hp => by
  rcases List.mem_cons.mp hp with rfl | hp
  · exact N _ hx
  rcases List.mem_cons.mp hp with rfl | hp
  · exact N _ hc
  · exact N _ (hr p hp)
theorem pick_then {P : Prop} {g h : Heap} {L : Addr} {x : Addr × Obj} {all new : List (Addr × Obj)} (N : News g L h all) (hx : x ∈ all) (hr : ∀ p ∈ new, p ∈ all) (k : News g L h (x :: new) → P) : P := k (pick1 N hx hr)
end Mine
end

section
open PySem PySem.W PyProof.Rows PySem.Spec PySem.Calls
set_option maxRecDepth 100000
namespace Mine
section
variable {prog : Program} {w : World} {A : Around} {E : Value → Shared → Prop} {s : Shared} {env : Env} {h₀ : Heap} {x : Str} {body : List Stmt} {Q : Flow → Shared → Prop} {m₀ : Str → Option Value}
def IsCell (o : Obj) : Prop := ∃ v, o.data = .cell v
def CellEnd (h₀ : Heap) (L : Addr) (own : List (Addr × Obj)) (c1 c2 : Addr) (Jn : (Str → Option Value) → Prop) (s s₂ : Shared) : Prop :=
  ∃ h' tk m' o1 o2 news', s₂ = { s with heap := h', toks := tk } ∧ Fr h₀ L h' m' ∧ News h₀ L h' news' ∧ (c1, o1) ∈ news' ∧ (c2, o2) ∈ news' ∧ (∀ p ∈ own, p ∈ news') ∧ IsCell o1 ∧ IsCell o2 ∧ Jn m'
/-- a turn's end, the two cells turned -/
def CellPost (h₀ : Heap) (L : Addr) (own : List (Addr × Obj)) (c1 c2 : Addr) (Jn : (Str → Option Value) → Prop) (s : Shared) (Q : Flow → Shared → Prop) (f : Flow) (s₂ : Shared) : Prop :=
  match f with
  | .ret v => Q (.ret v) s₂
  | .brk => Q .next s₂
  | _ => CellEnd h₀ L own c1 c2 Jn s s₂
theorem range_cells {r : Addr} {a b c : Int} {t u v : Tok} {n : Nat} {c1 c2 : Addr} {o1 o2 : Obj} (J : Nat → (Str → Option Value) → Prop) (hh : A.handled = none) (F : Fr h₀ env.locals s.heap m₀) (N : News h₀ env.locals s.heap [(c1, o1), (c2, o2)]) (k1 : IsCell o1) (k2 : IsCell o2)
    (hr : IsRange s.heap r a b c t u v) (hsm : Builtin.Range.small a b c = true) (hn : Builtin.Range.rangeSize a b c = ((n : Nat) : Int)) (hj : J 0 m₀)
    (turn : ∀ i u m₁ h tk own o1 o2, i < n → J i m₁ → IsCell o1 → IsCell o2 → Fr h₀ env.locals h (fun y => if y = x then some (.int (a + i * c) u) else m₁ y) → News h₀ env.locals h ((c1, o1) :: (c2, o2) :: own) → (∀ p ∈ own, p.1 ≠ c1) → (∀ p ∈ own, p.1 ≠ c2) →
      wpAny (model prog w) A (execs body env) (CellPost h₀ env.locals own c1 c2 (J (i + 1)) { s with heap := h, toks := tk } Q) E { s with heap := h, toks := tk })
    (done : ∀ m₁ h tk o1 o2, J n m₁ → Fr h₀ env.locals h m₁ → News h₀ env.locals h [(c1, o1), (c2, o2)] → IsCell o1 → IsCell o2 → Q .next { s with heap := h, toks := tk }) :
    wpAny (model prog w) A (pyIter (.ref r)) (fun it s₂ => LoopAtV prog w A h₀ env x body Q E it s₂) E s := by
  refine wpAny_pyIter_range hr hsm ?_
  have W := Walks.range (prog := prog) (w := w) hh s.heap.objs.size a c n
  let J' : Nat → (Str → Option Value) → List (Addr × Obj) → Prop := fun i m₁ news₁ => ∃ o1 o2, news₁ = [(c1, o1), (c2, o2)] ∧ IsCell o1 ∧ IsCell o2 ∧ J i m₁
  have off : ∀ (o1 o2 : Obj), ∀ p ∈ ([(c1, o1), (c2, o2)] : List (Addr × Obj)), p.1 ∉ [s.heap.objs.size] := fun p1 p2 p hp hI => by
    have hp' : p.1 = c1 ∨ p.1 = c2 := by
      simp only [List.mem_cons, List.not_mem_nil, or_false] at hp
      rcases hp with rfl | rfl
      · exact .inl rfl
      · exact .inr rfl
    have hI' := List.mem_singleton.mp hI
    rcases hp' with z | z
    · exact absurd (Heap.lt_size (N (c1, o1) (List.Mem.head _)).1) (by dsimp only; rw [← z, hI']; exact Nat.lt_irrefl _)
    · exact absurd (Heap.lt_size (N (c2, o2) (List.Mem.tail _ (List.Mem.head _))).1) (by dsimp only; rw [← z, hI']; exact Nat.lt_irrefl _)
  refine ⟨_, _, _, n, _, _, m₀, [(c1, o1), (c2, o2)], J', rfl, W, ?_, ?_, off o1 o2, (by show IsRangeIter _ _ _ _ _; rw [hn]; simpa using Heap.get?_push_size _ rfl), F.push _, (fun p hp => ⟨Heap.get?_push_of_some _ (N p hp).1, (N p hp).2⟩), ⟨o1, o2, rfl, k1, k2, hj⟩, ?_, ?_⟩
  · intro hm
    exact absurd F.ns.lt ((List.mem_singleton.mp hm) ▸ Nat.lt_irrefl _)
  · intro b hb
    rw [List.mem_singleton.mp hb]
    exact next_is_new F
  · rintro i vv m₁ news₁ s₁ own ⟨hh', tk', rfl⟩ hin ⟨u, rfl⟩ ⟨p1, p2, rfl, q1, q2, hJ⟩ hoff hfp _ _ _ F₁ N₁
    have N₂ : News h₀ env.locals hh' ((c1, p1) :: (c2, p2) :: own) := fun p hp => N₁ p (by
      simp only [List.mem_cons, List.mem_append, List.not_mem_nil, or_false] at hp ⊢
      rcases hp with h | h | h <;> simp [h])
    refine wpAny_mono (turn i u m₁ hh' tk' own p1 p2 hin hJ q1 q2 F₁ N₂ (fun p hp z => off p1 p2 (c1, p1) (List.Mem.head _) (z ▸ hfp p hp)) (fun p hp z => off p1 p2 (c2, p2) (List.Mem.tail _ (List.Mem.head _)) (z ▸ hfp p hp))) (fun f s₂ p => ?_) fun _ _ e => e
    have fin : CellEnd h₀ env.locals own c1 c2 (J (i + 1)) { s with heap := hh', toks := tk' } s₂ → LoopStepU h₀ env.locals [s.heap.objs.size] own (J' (i + 1)) { s with heap := hh', toks := tk' } .next s₂ := by
      rintro ⟨h', tk, m', r1, r2, news', e, F', N', m1, m2, ho, z1, z2, hm⟩
      refine ⟨rfl, h', tk, m', [(c1, r1), (c2, r2)], e, F', fun p hp => N' p ?_, off r1 r2, r1, r2, rfl, z1, z2, hm⟩
      simp only [List.mem_append, List.mem_cons, List.not_mem_nil, or_false] at hp
      rcases hp with h | rfl | rfl
      · exact ho p h
      · exact m1
      · exact m2
    cases f with
    | ret v => exact .ret p
    | brk => exact .brk p
    | next => exact .next (fin p)
    | cont => exact .cont (fin p)
  · rintro h' tk m' news' F' N' _ ⟨p1, p2, rfl, q1, q2, hJ⟩
    exact done m' h' tk p1 p2 hJ F' N' q1 q2
end
end Mine
end

section
open PySem PySem.W PyProof.Rows PySem.Spec PySem.Calls
set_option maxRecDepth 100000
namespace Mine
theorem map_at {m : Str → Option Value} {z : Str} {v : Value} (h : m z = some v) : m = fun y => if y = z then some v else m y := by
  funext y
  by_cases q : y = z
  · rw [if_pos q, q, h]
  · rw [if_neg q]
section
variable {prog : Program} {w : World} {A : Around} {E : Value → Shared → Prop} {s : Shared} {env : Env} {h₀ : Heap} {x z : Str} {body : List Stmt} {Q : Flow → Shared → Prop} {m₀ : Str → Option Value}
/-- the law's loop of one or two turns -/
theorem law_for {r : Addr} {t u v : Tok} {n : Nat} {c1 c2 : Addr} {o1 o2 : Obj} {val : Value} (z : Str) (hz : (z == x) = false) (hh : A.handled = none) (F : Fr h₀ env.locals s.heap m₀) (N : News h₀ env.locals s.heap [(c1, o1), (c2, o2)]) (k1 : IsCell o1) (k2 : IsCell o2)
    (hr : IsRange s.heap r 0 ((n : Nat) : Int) 1 t u v) (hn : n = 1 ∨ n = 2) (hj : m₀ z = some val)
    (turn : ∀ (i : Int) (u : Tok) (m₂ : Str → Option Value) (h : Heap) (tk : Nat) (own : List (Addr × Obj)) (o1 o2 : Obj), (0 ≤ i ∧ i ≤ 1) → IsCell o1 → IsCell o2 → Fr h₀ env.locals h (fun y => if y = x then some (.int i u) else if y = z then some val else m₂ y) → News h₀ env.locals h ((c1, o1) :: (c2, o2) :: own) → (∀ p ∈ own, p.1 ≠ c1) → (∀ p ∈ own, p.1 ≠ c2) →
      wpAny (model prog w) A (execs body env) (CellPost h₀ env.locals own c1 c2 (fun m => m z = some val) { s with heap := h, toks := tk } Q) E { s with heap := h, toks := tk })
    (done : ∀ m₁ h tk o1 o2, Fr h₀ env.locals h m₁ → News h₀ env.locals h [(c1, o1), (c2, o2)] → IsCell o1 → IsCell o2 → Q .next { s with heap := h, toks := tk }) :
    wpAny (model prog w) A (pyIter (.ref r)) (fun it s₂ => LoopAtV prog w A h₀ env x body Q E it s₂) E s := by
  refine range_cells (n := n) (c1 := c1) (c2 := c2) (fun _ m => m z = some val) hh F N k1 k2 hr (by rcases hn with rfl | rfl <;> decide) (by rcases hn with rfl | rfl <;> decide) hj (fun i u m₁ h tk own p1 p2 hi hJ q1 q2 F₁ N₁ e1 e2 => ?_) fun m₁ h tk p1 p2 _ F₁ N₁ q1 q2 => done m₁ h tk p1 p2 F₁ N₁ q1 q2
  rw [map_at hJ] at F₁
  rw [show (0 : Int) + (i : Int) * 1 = (i : Int) from by omega] at F₁
  exact turn (i : Int) u m₁ h tk own p1 p2 (by rcases hn with rfl | rfl <;> omega) q1 q2 F₁ N₁ e1 e2
end
theorem iter_b (n : Int) (hn : 0 ≤ n) : (if (if n < 2 then n else 2) > 1 then (if n < 2 then n else 2) else 1) = 1 ∨ (if (if n < 2 then n else 2) > 1 then (if n < 2 then n else 2) else 1) = 2 := by
  split <;> split at * <;> omega
theorem CellPost.next {h₀ h' : Heap} {L c1 c2 : Addr} {own news' : List (Addr × Obj)} {Jn : (Str → Option Value) → Prop} {s : Shared} {Q : Flow → Shared → Prop} {m' : Str → Option Value} {tk : Nat} {o1 o2 : Obj}
    (F : Fr h₀ L h' m') (N : News h₀ L h' news') (hJ : Jn m') (m1 : (c1, o1) ∈ news') (m2 : (c2, o2) ∈ news') (hs : ∀ p ∈ own, p ∈ news') (k1 : IsCell o1) (k2 : IsCell o2) : CellPost h₀ L own c1 c2 Jn s Q .next { s with heap := h', toks := tk } :=
  ⟨h', tk, m', o1, o2, news', rfl, F, N, m1, m2, hs, k1, k2, hJ⟩
end Mine
end

section
open PySem PySem.W PyProof.Rows PySem.Spec PySem.Calls
set_option maxRecDepth 100000
namespace Mine
variable {w : World} {mean : ExcName → Option Value} {mg mb : Str → Option Value}
theorem room_at {A : Around} {dp R k r : Nat} (h : dp + R < recursionLimit) (e : A.depth = dp) (g : Nat.ble (k + r) R = true) : A.depth + k + r < recursionLimit := by
  have := Nat.le_of_ble_eq_true g
  omega
theorem room_at0 {A : Around} {dp R : Nat} (h : dp + R < recursionLimit) (e : A.depth = dp) : A.depth < recursionLimit := by omega
theorem room_at1 {A : Around} {dp R k : Nat} (h : dp + R < recursionLimit) (e : A.depth = dp) (g : Nat.ble k R = true) : A.depth + k < recursionLimit := by
  have := Nat.le_of_ble_eq_true g
  omega
theorem units_at {A : Around} {un R k r : Nat} (h : un + 8 * R < cLine) (e : A.units = un) (g : Nat.ble (k + 8 * r) (8 * R) = true) : A.units + k + 8 * r < cLine := by
  have := Nat.le_of_ble_eq_true g
  omega
theorem lts_of {l news : List (Addr × Obj)} {D : Addr} (h : ∀ p ∈ l, @LT.lt Nat _ p.1 D) (s : ∀ p ∈ news, p ∈ l) : ∀ p ∈ news, @LT.lt Nat _ p.1 D := fun p hp => h p (s p hp)
theorem ne_above {l : List (Addr × Obj)} {D a : Addr} {o : Obj} (h : ∀ p ∈ l, @LT.lt Nat _ p.1 D) (hm : (a, o) ∈ l) : D ≠ a := fun e => Nat.lt_irrefl D (by have := h _ hm; rw [← e] at this; exact this)
theorem ne_above1 {l : List (Addr × Obj)} {D a k : Nat} {o : Obj} (h : ∀ p ∈ l, @LT.lt Nat _ p.1 D) (hm : (a, o) ∈ l) : D + k ≠ a := by
  have : a < D := h _ hm
  omega
/-- what a contract asks of its caller, in one word -/
structure Prem (w : World) (mean : ExcName → Option Value) (mg mb : Str → Option Value) (room : Nat) (news : List (Addr × Obj)) (dp un : Nat) (cs : Scope) (outer : List Env) (A₀ : Around) (base h₀ : Heap) (L : Addr) (m : Str → Option Value) (s : Shared) : Prop where
  k1 : Below A₀ base outer h₀
  k2 : Fr h₀ L s.heap m
  k3 : (laid.heap_1 w.params).In h₀
  k4 : News h₀ L s.heap news
  k5 : Top hd.view_1 (looseW hd.view_1 [Str.ofString "fraction"]) mean mg mb h₀
  kK : cs.kind = .function
  kd : dp + room < recursionLimit
  ku : un + 8 * room < cLine
theorem callBy {f : Addr} {vs : List Value} {room : Nat} {news : List (Addr × Obj)} {G : Heap → Addr → (Str → Option Value) → Shared → (Value → Shared → Prop) → Prop} (C : CallOf w mean mg mb f vs room news G)
    {dp un : Nat} {gd : Option (List Code)} {cn : Str} {cs : Scope} {a : Addr} {ccd : Value} {cl : List (Str × Addr)} {outer : List Env} {A₀ : Around} {base h₀ : Heap} {L : Addr} {m : Str → Option Value} {s : Shared} {Q E : Value → Shared → Prop}
    (k : Prem w mean mg mb room news dp un cs outer A₀ base h₀ L m s) (h : G h₀ L m s Q) : wpAny (model PySem.Challenge.rw_nu0021_01.row.prog w) (ktrTop dp un gd cn cs L a ccd cl outer) (call (.ref f) vs) Q E s :=
  C dp un gd cn cs a ccd cl outer A₀ base h₀ L m s Q E k.k1 k.k2 k.k3 k.k4 k.k5 k.kK k.kd k.ku h
theorem callByR {f : Addr} {vs : List Value} {room : Nat} {news : List (Addr × Obj)} {C₀ : Addr} (C : RaiseOf w mean mg mb f vs room news C₀)
    {dp un : Nat} {gd : Option (List Code)} {cn : Str} {cs : Scope} {a : Addr} {ccd : Value} {cl : List (Str × Addr)} {outer : List Env} {A₀ : Around} {base h₀ : Heap} {L : Addr} {m : Str → Option Value} {s : Shared} {Q E : Value → Shared → Prop}
    (k : Prem w mean mg mb room news dp un cs outer A₀ base h₀ L m s) (XB : (laid.heap_1 w.params).In base) (TB : Top hd.view_1 (looseW hd.view_1 [Str.ofString "fraction"]) mean mg mb base)
    (h : ∀ (e t : Addr) (ws : List Value) (h' : Heap) (tk' : Nat) (G : Heap), Fr h₀ L G m → RaisedS base G (envX cn cs L a ccd cl :: outer) e (.ref C₀) t ws news h' → G.UpToSlots h' → E (.ref e) { s with heap := h', toks := tk' }) :
    wpAny (model PySem.Challenge.rw_nu0021_01.row.prog w) (ktrTop dp un gd cn cs L a ccd cl outer) (call (.ref f) vs) Q E s :=
  C dp un gd cn cs a ccd cl outer A₀ base h₀ L m s Q E k.k1 k.k2 k.k3 k.k4 k.k5 k.kK k.kd k.ku XB TB h
theorem callByR2 {f : Addr} {vs : List Value} {room : Nat} {news : List (Addr × Obj)} {C₀ : Addr} (C : Raise2Of w mean mg mb f vs room news C₀)
    {dp un : Nat} {gd : Option (List Code)} {cn : Str} {cs : Scope} {a : Addr} {ccd : Value} {cl : List (Str × Addr)} {outer : List Env} {A₀ : Around} {base h₀ : Heap} {L : Addr} {m : Str → Option Value} {s : Shared} {Q E : Value → Shared → Prop}
    (k : Prem w mean mg mb room news dp un cs outer A₀ base h₀ L m s) (XB : (laid.heap_1 w.params).In base) (TB : Top hd.view_1 (looseW hd.view_1 [Str.ofString "fraction"]) mean mg mb base)
    (h : ∀ (e t : Addr) (ws : List Value) (h' : Heap) (tk' : Nat) (G : Heap), Fr h₀ L G m → Raised2 base G (envX cn cs L a ccd cl :: outer) e (.ref C₀) t ws news h' → G.UpToSlots h' → E (.ref e) { s with heap := h', toks := tk' }) :
    wpAny (model PySem.Challenge.rw_nu0021_01.row.prog w) (ktrTop dp un gd cn cs L a ccd cl outer) (call (.ref f) vs) Q E s :=
  C dp un gd cn cs a ccd cl outer A₀ base h₀ L m s Q E k.k1 k.k2 k.k3 k.k4 k.k5 k.kK k.kd k.ku XB TB h
theorem callByT {f : Addr} {vs : List Value} {room : Nat} {news : List (Addr × Obj)} {v : Value} (C : CatchOf w mean mg mb f vs room news v)
    {dp un : Nat} {gd : Option (List Code)} {cn : Str} {cs : Scope} {a : Addr} {ccd : Value} {cl : List (Str × Addr)} {outer : List Env} {A₀ : Around} {base h₀ : Heap} {L : Addr} {m : Str → Option Value} {s : Shared} {Q E : Value → Shared → Prop}
    (k : Prem w mean mg mb room news dp un cs outer A₀ base h₀ L m s) (XB : (laid.heap_1 w.params).In base) (TB : Top hd.view_1 (looseW hd.view_1 [Str.ofString "fraction"]) mean mg mb base) (D : KtsDicts (outer.filterMap (·.frame)) h₀)
    (h : ∀ (h' : Heap) (tk' : Nat) (h₀' : Heap), KtsTurn (outer.filterMap (·.frame)) h₀ h₀' → Fr h₀' L h' m → News h₀' L h' news → Below A₀ base outer h₀' → (laid.heap_1 w.params).In h₀' → Top hd.view_1 (looseW hd.view_1 [Str.ofString "fraction"]) mean mg mb h₀' →
      KtsDicts (outer.filterMap (·.frame)) h₀' → Q v { s with heap := h', toks := tk' }) :
    wpAny (model PySem.Challenge.rw_nu0021_01.row.prog w) (ktrTop dp un gd cn cs L a ccd cl outer) (call (.ref f) vs) Q E s :=
  C dp un gd cn cs a ccd cl outer A₀ base h₀ L m s Q E k.k1 k.k2 k.k3 k.k4 k.k5 k.kK k.kd k.ku XB TB D h
/-- the ledger's source to its head -/
theorem rot1 {h₀ h : Heap} {L : Addr} {x p1 : Addr × Obj} {r : List (Addr × Obj)} (N : News h₀ L h (p1 :: x :: r)) : News h₀ L h (x :: p1 :: r) := fun p hp => N p (by
  simp only [List.mem_cons] at hp ⊢
  rcases hp with h | h | h <;> simp [h])
theorem rot2 {h₀ h : Heap} {L : Addr} {x p1 p2 : Addr × Obj} {r : List (Addr × Obj)} (N : News h₀ L h (p1 :: p2 :: x :: r)) : News h₀ L h (x :: p1 :: p2 :: r) := fun p hp => N p (by
  simp only [List.mem_cons] at hp ⊢
  rcases hp with h | h | h | h <;> simp [h])
theorem rot3 {h₀ h : Heap} {L : Addr} {x p1 p2 p3 : Addr × Obj} {r : List (Addr × Obj)} (N : News h₀ L h (p1 :: p2 :: p3 :: x :: r)) : News h₀ L h (x :: p1 :: p2 :: p3 :: r) := fun p hp => N p (by
  simp only [List.mem_cons] at hp ⊢
  rcases hp with h | h | h | h | h <;> simp [h])
end Mine
end

section
open PySem PySem.W PyProof.Rows PySem.Spec PySem.Calls
set_option maxRecDepth 100000
namespace Mine
theorem three_of {α : Type} : ∀ {ys : List α}, ys.length = 3 → ∃ y1 y2 y3, ys = [y1, y2, y3]
  | [y1, y2, y3], _ => ⟨y1, y2, y3, rfl⟩
section
variable {prog : Program} {w : World} {A : Around} {s : Shared} {h₀ : Heap} {L : Addr} {m : Str → Option Value} {env : Env} {elt : Expr} {x : Str} {scope : Scope} {cl : List (Str × Addr)} {news : List (Addr × Obj)} {S : List (Addr × Obj) → Prop} {Fin : List Value → List (Addr × Obj) → Prop}
/-- a turn's end: what it gives, the ledger as it was -/
structure ItemEnd (h₀ : Heap) (L : Addr) (m : Str → Option Value) (s : Shared) (R : Value → Prop) (led : List (Addr × Obj)) (y : Value) (s₂ : Shared) : Prop where
  out : ∃ h' tk', R y ∧ s₂ = { s with heap := h', toks := tk' } ∧ Fr h₀ L h' m ∧ News h₀ L h' led
theorem ItemEnd.intro {s : Shared} {R : Value → Prop} {led : List (Addr × Obj)} {y : Value} {h' : Heap} {tk' : Nat} (r : R y) (F : Fr h₀ L h' m) (N : News h₀ L h' led) : ItemEnd h₀ L m s R led y { s with heap := h', toks := tk' } := ⟨⟨h', tk', r, rfl, F, N⟩⟩
/-- one turn for each of three items, walked once -/
abbrev TurnOf (prog : Program) (w : World) (A : Around) (h₀ : Heap) (L : Addr) (m : Str → Option Value) (env : Env) (elt : Expr) (x : Str) (scope : Scope) (cl : List (Str × Addr)) (s : Shared) (news : List (Addr × Obj)) (T : Value → Prop) (R : Value → Value → Prop) : Prop :=
  ∀ v ys I oI C oC D m₂ h tk (E' : Value → Shared → Prop), T v → LCg.NsObj oC m₂ → m₂ x = some v → Fr h₀ L h m → News h₀ L h ((I, oI) :: (C, oC) :: (D, LCg.lst ys) :: news) → LCg.Off3 I C D news → Apart3 I C D →
    wpAny (model prog w) A (eval elt (compEnvC scope cl C env)) (ItemEnd h₀ L m s (R v) ((I, oI) :: (C, oC) :: (D, LCg.lst ys) :: news)) E' { s with heap := h, toks := tk }
theorem rest_step {P : Nat → Value → Prop} {T : Value → Prop} {R : Value → Value → Prop} (turn : TurnOf prog w A h₀ L m env elt x scope cl s news T R) (hS : S news) {k i : Nat} {ys : List Value} (v : Value) (hT : T v) (hP : ∀ v', P i v' → v' = v)
    (next : ∀ y, R v y → LCg.CompRest prog w A h₀ L m env elt x scope cl s S P Fin k (i + 1) (ys ++ [y]) news) : LCg.CompRest prog w A h₀ L m env elt x scope cl s S P Fin (k + 1) i ys news := by
  refine LCg.CompRest.succ ?_
  intro v' I oI C oC D m₂ h tk E' hv hC hx F N off ne
  obtain rfl := hP v' hv
  refine wpAny_mono (turn _ ys I oI C oC D m₂ h tk E' hT hC hx F N off (apart3 ne)) (fun y s₂ q => ?_) fun _ _ e => e
  obtain ⟨h', tk', r, rfl, F', N'⟩ := q.out
  exact ⟨h', tk', news, rfl, F', N', off, hS, next y r⟩
theorem rest_three {v1 v2 v3 : Value} (T : Value → Prop) (R : Value → Value → Prop) (hS : S news) (t1 : T v1) (t2 : T v2) (t3 : T v3) (turn : TurnOf prog w A h₀ L m env elt x scope cl s news T R)
    (fin : ∀ y1 y2 y3, R v1 y1 → R v2 y2 → R v3 y3 → Fin [y1, y2, y3] news) : LCg.CompRest prog w A h₀ L m env elt x scope cl s S (fun i v => (#[v1, v2, v3] : Array Value)[i]? = some v) Fin 3 0 [] news :=
  rest_step turn hS v1 t1 (fun v h => (Option.some.inj h).symm) fun y1 r1 => rest_step turn hS v2 t2 (fun v h => (Option.some.inj h).symm) fun y2 r2 =>
    rest_step turn hS v3 t3 (fun v h => (Option.some.inj h).symm) fun y3 r3 => LCg.CompRest.zero (fin y1 y2 y3 r1 r2 r3)
/-- where a turn looks at nothing but its own item, the frame and the ledger are kept out of sight -/
theorem rest_any {v1 v2 v3 : Value} (T : Value → Prop) (R : Value → Value → Prop) (hS : S news) (t1 : T v1) (t2 : T v2) (t3 : T v3) (turn : ∀ m' s' news', TurnOf prog w A h₀ L m' env elt x scope cl s' news' T R)
    (fin : ∀ y1 y2 y3, R v1 y1 → R v2 y2 → R v3 y3 → Fin [y1, y2, y3] news) : LCg.CompRest prog w A h₀ L m env elt x scope cl s S (fun i v => (#[v1, v2, v3] : Array Value)[i]? = some v) Fin 3 0 [] news :=
  rest_three T R hS t1 t2 t3 (turn m s news) fin
end
end Mine
end

section
open PySem PySem.W PyProof.Rows PySem.Spec PySem.Calls PySem.Builtin PySem.Builtin.Str
namespace Mine
/-- a text by its signs -/
abbrev T (l : List Nat) : Str := ⟨l.toArray⟩
theorem T_app (a b : List Nat) : T a ++ T b = T (a ++ b) := by
  show (⟨a.toArray ++ b.toArray⟩ : Str) = ⟨(a ++ b).toArray⟩
  rw [List.append_toArray]
theorem T_len (l : List Nat) : (T l).length = l.length := by simp [Str.length]
theorem T_ne {a b : List Nat} (h : a ≠ b) : (T a == T b) = false := by
  refine beq_eq_false_iff_ne.mpr fun e => h ?_
  have := congrArg (fun x : Str => x.cps.toList) e
  simpa using this
theorem T_eq {a b : List Nat} (h : a = b) : (T a == T b) = true := by
  subst h
  exact beq_self_eq_true _
/-- a cut in lists -/
theorem slice_ss {l : List Nat} {i j : Nat} (h1 : i ≤ j) (h2 : j ≤ l.length) : Txt.slice (T l) (some (i : Int)) (some (j : Int)) = T ((l.drop i).take (j - i)) := by
  have := slice_closesL (x := T l) (i := i) (j := j) (by omega) (by omega) (by rw [T_len]; omega)
  have e := eq_of_beq this
  rw [e]
  congr 3
  omega
theorem slice_ns {l : List Nat} {j : Nat} (h2 : j ≤ l.length) : Txt.slice (T l) none (some (j : Int)) = T (l.take j) := by
  have e := eq_of_beq (slice_closes_toL (x := T l) (j := j) (by omega) (by rw [T_len]; omega))
  rw [e]
  simp
theorem slice_sn {l : List Nat} {i : Nat} (h2 : i ≤ l.length) : Txt.slice (T l) (some (i : Int)) none = T (l.drop i) := by
  rw [slice_from_eq (x := T l) (i := i) (b := l.length) (by omega) (by rw [T_len]; omega) (by rw [T_len])]
  congr 2
  exact List.take_of_length_le (by simp)
theorem last_ix {n : Nat} (h : 0 < n) : (if (-1 : Int) < 0 then (-1 : Int) + (n : Int) else -1) = (if ((n - 1 : Nat) : Int) < 0 then ((n - 1 : Nat) : Int) + (n : Int) else ((n - 1 : Nat) : Int)) := by
  rw [if_pos (by decide), if_neg (Int.not_lt.mpr (Int.natCast_nonneg _)), Int.ofNat_sub h, Int.add_comm]; rfl
theorem slice_lo {l : List Nat} (u : Option Int) (h : 0 < l.length) : Txt.slice (T l) (some (-1)) u = Txt.slice (T l) (some ((l.length - 1 : Nat) : Int)) u := by
  have e : strSliceIndices (some (-1)) u 1 (T l).length = strSliceIndices (some ((l.length - 1 : Nat) : Int)) u 1 (T l).length := by
    unfold strSliceIndices
    rw [T_len]
    dsimp only
    rw [last_ix h]
  unfold Txt.slice
  rw [e]
theorem slice_hi {l : List Nat} (a : Option Int) (h : 0 < l.length) : Txt.slice (T l) a (some (-1)) = Txt.slice (T l) a (some ((l.length - 1 : Nat) : Int)) := by
  have e : strSliceIndices a (some (-1)) 1 (T l).length = strSliceIndices a (some ((l.length - 1 : Nat) : Int)) 1 (T l).length := by
    unfold strSliceIndices
    rw [T_len]
    dsimp only
    rw [last_ix h]
  unfold Txt.slice
  rw [e]
theorem slice_last (m : List Nat) (c : Nat) : Txt.slice (T (m ++ [c])) (some (-1)) none = T [c] := by
  rw [slice_lo _ (by simp), slice_sn (by simp)]
  simp
theorem slice_front (m : List Nat) (c : Nat) : Txt.slice (T (m ++ [c])) none (some (-1)) = T m := by
  rw [slice_hi _ (by simp), slice_ns (by simp)]
  simp
theorem slice_mid (a m : List Nat) (c : Nat) : Txt.slice (T (a ++ (m ++ [c]))) (some (a.length : Int)) (some (-1)) = T m := by
  rw [slice_hi _ (by simp; omega), slice_ss (by simp) (by simp)]
  simp
/-- strip, sign by sign -/
theorem takeWhile_app {p : Nat → Bool} : ∀ {a : List Nat} {b : List Nat}, (∀ c ∈ a, p c = true) → (∀ c, b.head? = some c → p c = false) → (a ++ b).takeWhile p = a
  | [], [], _, _ => rfl
  | [], c :: b, _, h => by rw [List.nil_append, List.takeWhile_cons, h c rfl]; rfl
  | c :: a, b, h1, h2 => by
    rw [List.cons_append, List.takeWhile_cons, h1 c List.mem_cons_self]
    simp only [if_true]
    rw [takeWhile_app (fun x hx => h1 x (List.mem_cons_of_mem _ hx)) h2]
theorem strip_is {p m q : List Nat} (hp : ∀ c ∈ p, Unicode.isSpace c = true) (hq : ∀ c ∈ q, Unicode.isSpace c = true) (h1 : ∀ c, m.head? = some c → Unicode.isSpace c = false) (h2 : ∀ c, m.getLast? = some c → Unicode.isSpace c = false) (hm : m ≠ []) :
    Txt.strip (T (p ++ (m ++ q))) = T m := by
  have ne : (m ++ q).head? = m.head? := by
    cases m with
    | nil => exact absurd rfl hm
    | cons c r => rfl
  have lo : stripLo Unicode.isSpace true (T (p ++ (m ++ q))) = p.length := by
    simp only [stripLo, if_true]
    rw [takeWhile_app hp (fun c hc => h1 c (ne ▸ hc))]
  have hi : stripHi Unicode.isSpace true (T (p ++ (m ++ q))) p.length = p.length + m.length := by
    simp only [stripHi, if_true]
    rw [List.drop_left, List.reverse_append, takeWhile_app (fun c hc => hq c (List.mem_reverse.mp hc)) (fun c hc => h2 c (by rwa [List.head?_reverse] at hc)), T_len]
    simp
    omega
  show Txt.stripBy Unicode.isSpace true true _ = _
  rw [PyProof.Rows.stripBy_eq, lo, hi]
  unfold strSub
  simp
/-- lowered, sign by sign -/
noncomputable def lowN (c : Nat) : Nat := if 65 ≤ c ∧ c ≤ 90 then c + 32 else c
theorem join_nil_singles (f : Nat → Nat) (l : List Nat) : Txt.join (T []) (l.map fun c => T [f c]) = T (l.map f) := by
  have h : ∀ (l : List Nat) (a : List Nat), List.foldl (fun (acc : Array Nat) (p : Str) => acc ++ (T []).cps ++ p.cps) a.toArray (l.map fun c => T [f c]) = (a ++ l.map f).toArray := by
    intro l
    induction l with
    | nil => intro a; simp
    | cons c r ih =>
      intro a
      rw [List.map_cons, List.foldl_cons]
      have e : a.toArray ++ (T []).cps ++ (T [f c]).cps = (a ++ [f c]).toArray := by simp
      rw [e, ih]
      simp
  cases l with
  | nil => rfl
  | cons c r =>
    show (⟨_⟩ : Str) = _
    simp only [List.map_cons, List.drop_succ_cons, List.drop_zero, List.headD_cons]
    rw [h r [f c]]
    rfl
/-- cut at a sign -/
noncomputable def cutc (s : Nat) : List Nat → List (List Nat)
  | [] => [[]]
  | c :: r => if c = s then [] :: cutc s r else match cutc s r with
    | w :: ws => (c :: w) :: ws
    | [] => [[c]]
noncomputable def jnc (s : Nat) : List (List Nat) → List Nat
  | [] => []
  | [x] => x
  | x :: y :: r => x ++ s :: jnc s (y :: r)
theorem cutc_free {s : Nat} : ∀ {x : List Nat}, s ∉ x → cutc s x = [x]
  | [], _ => rfl
  | c :: r, h => by
    have h1 : c ≠ s := fun e => h (e ▸ List.mem_cons_self)
    have h2 := cutc_free (x := r) fun q => h (List.mem_cons_of_mem _ q)
    rw [cutc, if_neg h1, h2]
theorem cutc_app {s : Nat} (t : List Nat) : ∀ {x : List Nat}, s ∉ x → cutc s (x ++ s :: t) = x :: cutc s t
  | [], _ => by rw [List.nil_append, cutc, if_pos rfl]
  | c :: r, h => by
    have h1 : c ≠ s := fun e => h (e ▸ List.mem_cons_self)
    have h2 := cutc_app t (x := r) fun q => h (List.mem_cons_of_mem _ q)
    rw [List.cons_append, cutc, if_neg h1, h2]
theorem cutc_jn {s : Nat} : ∀ {ps : List (List Nat)}, ps ≠ [] → (∀ p ∈ ps, s ∉ p) → cutc s (jnc s ps) = ps
  | [], h, _ => absurd rfl h
  | [x], _, h => cutc_free (h x List.mem_cons_self)
  | x :: y :: r, _, h => by
    rw [jnc, cutc_app _ (h x List.mem_cons_self), cutc_jn (ps := y :: r) (by simp) fun p hp => h p (List.mem_cons_of_mem _ hp)]
theorem jnc_join (s : Nat) : ∀ ps : List Str, (Str.join ⟨#[s]⟩ ps).cps.toList = jnc s (ps.map fun p => p.cps.toList)
  | [] => rfl
  | [x] => rfl
  | x :: y :: r => by
    have ih := jnc_join s (y :: r)
    show ((x ++ ⟨#[s]⟩ ++ Str.join ⟨#[s]⟩ (y :: r) : Str)).cps.toList = _
    rw [Str.cps_append, Str.cps_append, Array.toList_append, Array.toList_append, ih]
    simp [jnc]
theorem split_cutc (x : Str) (s : Nat) : (Txt.split x ⟨#[s]⟩).map (fun p => p.cps.toList) = cutc s x.cps.toList := by
  have h1 := StrLaws.join_split x ⟨#[s]⟩
  have h2 := StrLaws.split_free x s
  have h3 := split_pos x ⟨#[s]⟩
  have e : x.cps.toList = jnc s ((Txt.split x ⟨#[s]⟩).map fun p => p.cps.toList) := by rw [← jnc_join, h1]
  rw [e, cutc_jn]
  · intro q
    rw [List.map_eq_nil_iff] at q
    rw [q] at h3
    simp at h3
  · intro p hp
    obtain ⟨q, hq, rfl⟩ := List.mem_map.mp hp
    exact h2 q hq
theorem map_T : ∀ {l : List Str} {ps : List (List Nat)}, l.map (fun p => p.cps.toList) = ps → l = ps.map T
  | [], _, rfl => rfl
  | x :: r, _, rfl => by
    rw [List.map_cons, List.map_cons, ← map_T (l := r) rfl]
theorem split_three {a b c : List Nat} (ha : 44 ∉ a) (hb : 44 ∉ b) (hc : 44 ∉ c) : Txt.split (T (a ++ 44 :: (b ++ 44 :: c))) (T [44]) = [T a, T b, T c] := by
  refine map_T (ps := [a, b, c]) ?_
  rw [split_cutc]
  show cutc 44 (a ++ 44 :: (b ++ 44 :: c)) = _
  rw [cutc_app _ ha, cutc_app _ hb, cutc_free hc]
theorem ofS (s : String) : Str.ofString s = T (s.toList.map Char.toNat) := by
  have q : Str.ofString (String.ofList s.toList) = T (s.toList.map Char.toNat) := Fast.ofString_ofList s.toList
  rwa [String.ofList_toList] at q
theorem join_three_T (x a b c : List Nat) : Txt.join (T x) [T a, T b, T c] = T (a ++ (x ++ (b ++ (x ++ c)))) := by
  show (⟨_⟩ : Str) = _
  simp [List.foldl]
theorem join3_len (x a b c : Str) : (Txt.join x [a, b, c]).length = a.length + x.length + b.length + x.length + c.length := by
  show ((a.cps ++ x.cps ++ b.cps ++ x.cps ++ c.cps) : Array Nat).size = _
  simp [Str.length]
  omega
end Mine
end

section
open PySem PySem.W PyProof.Rows PySem.Spec PySem.Calls
namespace Mine
/-- a part weighted, as the text writes it -/
abbrev toldF (n al : Int) : Int := (2 * n * al + 255).fdiv 510
theorem told_mul (n al : Int) : mul8 n al = toldF n al := by
  unfold toldF
  rw [fd _ _ (by decide)]; rfl
theorem mul8_255 (n : Int) : mul8 n 255 = n := by unfold mul8; omega
theorem mul8_r255 (n : Int) : mul8 255 n = n := by unfold mul8; omega
theorem mul8_0 (n : Int) : mul8 n 0 = 0 := by unfold mul8; omega
theorem unmul_255 (n : Int) : unmul n 255 = n := by
  unfold unmul
  rw [if_neg (by decide)]
  omega
theorem mul8_rng {n al : Int} (hn : 0 ≤ n ∧ n ≤ 255) (ha : 0 ≤ al ∧ al ≤ 255) : 0 ≤ mul8 n al ∧ mul8 n al ≤ al := by
  have h1 : 0 ≤ n * al := Int.mul_nonneg hn.1 ha.1
  have h2 : n * al ≤ 255 * al := Int.mul_le_mul_of_nonneg_right hn.2 ha.1
  unfold mul8
  rw [Int.mul_assoc]
  generalize n * al = z at *
  omega
theorem unmul_rng {p al : Int} (hp : 0 ≤ p ∧ p ≤ al) (ha : 0 ≤ al ∧ al ≤ 255) : 0 ≤ unmul p al ∧ unmul p al ≤ 255 := by
  unfold unmul
  by_cases h : al = 0
  · rw [if_pos h]; omega
  · rw [if_neg h]
    refine ⟨Int.ediv_nonneg (by omega) (by omega), ?_⟩
    have : (2 * p * 255 + al) / (2 * al) < 256 := Int.ediv_lt_of_lt_mul (by omega) (by omega)
    omega
theorem back_is {p al : Int} (hp : 0 ≤ p ∧ p ≤ al) (ha : 0 ≤ al ∧ al ≤ 255) : mul8 (unmul p al) al = p := by
  unfold unmul
  by_cases h : al = 0
  · rw [if_pos h, h]
    unfold mul8
    omega
  · rw [if_neg h]
    by_cases h5 : al = 255
    · subst h5
      unfold mul8
      omega
    · have h1 := Int.mul_ediv_self_le (x := 2 * p * 255 + al) (k := 2 * al) (by omega)
      have h2 := Int.lt_mul_ediv_self_add (x := 2 * p * 255 + al) (k := 2 * al) (by omega)
      unfold mul8
      generalize (2 * p * 255 + al) / (2 * al) = u at *
      rw [Int.mul_assoc 2 al u] at h1 h2
      rw [Int.mul_assoc 2 u al, Int.mul_comm u al]
      generalize al * u = z at *
      omega
end Mine
end

section
open PySem PySem.W PyProof.Rows PySem.Spec PySem.Calls PySem.Builtin PySem.Builtin.Str
namespace Mine
noncomputable def lowC (c : Nat) : Str := if 65 ≤ c ∧ c ≤ 90 then ⟨#[c + 32]⟩ else ⟨#[c]⟩
noncomputable def lowS (x : Str) : Str := Txt.join (Str.ofString "") (x.cps.toList.map lowC)
theorem emptyS : Str.ofString "" = T [] := by decide +kernel
theorem lowS_T (l : List Nat) : lowS (T l) = T (l.map lowN) := by
  unfold lowS
  rw [emptyS, ← join_nil_singles]
  congr 1
  show l.map lowC = _
  apply List.map_congr_left
  intro c _
  unfold lowC lowN
  split <;> rfl
theorem flatten_one (f : Nat → Nat) (l : List Nat) : ((l.toArray.mapIdx fun _ c => ([f c] : List Nat).toArray).flatten) = (l.map f).toArray := by
  have e : (l.toArray.mapIdx fun _ c => ([f c] : List Nat).toArray) = (l.map fun c => ([f c] : List Nat).toArray).toArray := by
    apply Array.ext
    · simp
    · intro i h1 h2
      simp
  rw [e]
  apply Array.toList_inj.mp
  rw [Array.toList_flatten]
  induction l with
  | nil => rfl
  | cons c r ih =>
    simp only [List.map_cons, List.flatten_cons] at ih ⊢
    simp
    simpa using ih (by apply Array.ext <;> simp)
theorem lowerOf_ascii : ∀ c : Fin 128, Unicode.lowerOf c.1 = [lowN c.1] := by decide +kernel
theorem lower_T {l : List Nat} (h : ∀ c ∈ l, c < 128) : Txt.lower (T l) = T (l.map lowN) := by
  unfold Txt.lower placed
  have e : (l.toArray.mapIdx fun i c => (Unicode.lowerAt l.toArray i).toArray) = (l.toArray.mapIdx fun _ c => ([lowN c] : List Nat).toArray) := by
    apply Array.ext
    · simp
    · intro i h1 h2
      simp only [Array.size_mapIdx, List.size_toArray] at h1
      simp only [Array.getElem_mapIdx, List.getElem_toArray]
      have hc := h _ (List.getElem_mem h1)
      unfold Unicode.lowerAt
      have e2 : l.toArray[i]? = some l[i] := by simp [h1]
      rw [e2]
      dsimp only
      rw [if_neg (by simp; omega)]
      rw [lowerOf_ascii ⟨l[i], hc⟩]
  show (⟨(l.toArray.mapIdx fun i c => (Unicode.lowerAt l.toArray i).toArray).flatten⟩ : Str) = _
  rw [e, flatten_one]
theorem digits16 {P : Int → Prop} (h : ∀ i : Fin 16, P ((i : Nat) : Int)) {n : Int} (hn : 0 ≤ n ∧ n < 16) : P n := by
  obtain ⟨k, rfl⟩ := Int.eq_ofNat_of_zero_le hn.1
  exact h ⟨k, by omega⟩
theorem low_up {n : Int} (hn : 0 ≤ n ∧ n < 16) : lowN (upDigit n) = loDigit n := digits16 (P := fun n => lowN (upDigit n) = loDigit n) (by decide +kernel) hn
theorem low_lo {n : Int} (hn : 0 ≤ n ∧ n < 16) : lowN (loDigit n) = loDigit n := digits16 (P := fun n => lowN (loDigit n) = loDigit n) (by decide +kernel) hn
theorem lo_sm {n : Int} (hn : 0 ≤ n ∧ n < 16) : loDigit n < 128 := digits16 (P := fun n => loDigit n < 128) (by decide +kernel) hn
theorem up_sm {n : Int} (hn : 0 ≤ n ∧ n < 16) : upDigit n < 128 := digits16 (P := fun n => upDigit n < 128) (by decide +kernel) hn
theorem lo_nsp {n : Int} (hn : 0 ≤ n ∧ n < 16) : Unicode.isSpace (loDigit n) = false := digits16 (P := fun n => Unicode.isSpace (loDigit n) = false) (by decide +kernel) hn
def isHex (c : Nat) : Prop := (48 ≤ c ∧ c ≤ 57) ∨ (97 ≤ c ∧ c ≤ 102)
noncomputable def hexV (c : Nat) : Int := if c < 58 then (c : Int) - 48 else (c : Int) - 87
theorem lo_hex {n : Int} (hn : 0 ≤ n ∧ n < 16) : isHex (loDigit n) := by
  unfold isHex loDigit
  split <;> omega
theorem lo_val {n : Int} (hn : 0 ≤ n ∧ n < 16) : hexV (loDigit n) = n := by
  unfold hexV loDigit
  split <;> split <;> omega
theorem hashS : Str.ofString "#" = T [35] := by decide +kernel
theorem noneS : Str.ofString "none" = T [110, 111, 110, 101] := by decide +kernel
theorem hex_join (a b c d e f : Nat) : Str.ofString "#" ++ Txt.join (Str.ofString "") [⟨#[a, b]⟩, ⟨#[c, d]⟩, ⟨#[e, f]⟩] = T [35, a, b, c, d, e, f] := by
  rw [hashS, emptyS]
  rfl
theorem lower_hex (r g b : Int) (hr : 0 ≤ r ∧ r ≤ 255) (hg : 0 ≤ g ∧ g ≤ 255) (hb : 0 ≤ b ∧ b ≤ 255) : Txt.lower (Str.ofString "#" ++ Txt.join (Str.ofString "") [Str.mk #[upDigit (r / 16), loDigit (r % 16)], Str.mk #[upDigit (g / 16), loDigit (g % 16)], Str.mk #[upDigit (b / 16), loDigit (b % 16)]]) = ⟨#[35, loDigit (r / 16), loDigit (r % 16), loDigit (g / 16), loDigit (g % 16), loDigit (b / 16), loDigit (b % 16)]⟩ := by
  rw [hex_join, lower_T]
  · simp only [List.map_cons, List.map_nil]
    rw [low_up (by omega), low_up (by omega), low_up (by omega), low_lo (by omega), low_lo (by omega), low_lo (by omega)]
    rfl
  · intro c hc
    simp only [List.mem_cons, List.not_mem_nil, or_false] at hc
    rcases hc with rfl | rfl | rfl | rfl | rfl | rfl | rfl
    · decide
    all_goals first | exact up_sm (by omega) | exact lo_sm (by omega)
end Mine
end

section
open PySem PySem.W PyProof.Rows PySem.Spec PySem.Calls PySem.Builtin PySem.Builtin.Str
set_option maxRecDepth 100000
namespace Mine
noncomputable def lookW (x : Str) : List Str → Option Str
  | k :: v :: r => if k = x then some v else lookW x r
  | _ => none
noncomputable def lookL (x : List Nat) : List (List Nat) → Option (List Nat)
  | k :: v :: r => if k = x then some v else lookL x r
  | _ => none
theorem T_inj {a b : List Nat} (h : T a = T b) : a = b := by
  have := congrArg (fun x : Str => x.cps.toList) h
  simpa using this
theorem lookW_map (x : List Nat) : ∀ ws : List (List Nat), lookW (T x) (ws.map T) = (lookL x ws).map T
  | [] => rfl
  | [_] => rfl
  | k :: v :: r => by
    show (if T k = T x then some (T v) else lookW (T x) (r.map T)) = Option.map T (if k = x then some v else lookL x r)
    by_cases h : k = x
    · rw [if_pos h, if_pos (by rw [h])]; rfl
    · rw [if_neg h, if_neg (fun q => h (T_inj q)), lookW_map x r]
noncomputable def theNames : List (List Nat × List Nat) := [([114, 101, 100], [102, 102, 48, 48, 48, 48]),
  ([108, 105, 109, 101], [48, 48, 102, 102, 48, 48]),
  ([103, 114, 101, 101, 110], [48, 48, 56, 48, 48, 48]),
  ([110, 97, 118, 121], [48, 48, 48, 48, 56, 48]),
  ([111, 114, 97, 110, 103, 101], [102, 102, 97, 53, 48, 48]),
  ([103, 114, 101, 121], [56, 48, 56, 48, 56, 48]),
  ([116, 97, 110], [100, 50, 98, 52, 56, 99]),
  ([103, 114, 97, 121], [56, 48, 56, 48, 56, 48]),
  ([97, 108, 105, 99, 101, 98, 108, 117, 101], [102, 48, 102, 56, 102, 102]),
  ([121, 101, 108, 108, 111, 119, 103, 114, 101, 101, 110], [57, 97, 99, 100, 51, 50]),
  ([97, 113, 117, 97], [48, 48, 102, 102, 102, 102]),
  ([109, 101, 100, 105, 117, 109, 118, 105, 111, 108, 101, 116, 114, 101, 100], [99, 55, 49, 53, 56, 53]),
  ([115, 108, 97, 116, 101, 103, 114, 101, 121], [55, 48, 56, 48, 57, 48]),
  ([108, 105, 103, 104, 116, 103, 111, 108, 100, 101, 110, 114, 111, 100, 121, 101, 108, 108, 111, 119], [102, 97, 102, 97, 100, 50]),
  ([119, 104, 105, 116, 101, 115, 109, 111, 107, 101], [102, 53, 102, 53, 102, 53])]
noncomputable def noNames : List (List Nat) := [[114, 101, 98, 101, 99, 99, 97], [110, 111, 116, 104, 105, 110, 103], [], [114, 103, 98, 40, 49, 44, 50, 44, 51]]
noncomputable def longOk (ws : List (List Nat)) : Bool := ws.length == 294 && theNames.all (fun p => lookL p.1 ws == some p.2) && noNames.all (fun p => lookL p ws == none)
theorem long_ok : longOk (cut longText.cps.toList) = true := by decide +kernel
theorem blankS : Str.ofString " " = ⟨#[32]⟩ := by decide +kernel
theorem long_words : Txt.split longText (Str.ofString " ") = (cut longText.cps.toList).map T := by
  rw [blankS]
  exact map_T (split_cut longText)
theorem long_len : longText.length ≤ 4000 := by decide +kernel
theorem long_cnt : (Txt.split longText (Str.ofString " ")).length = 294 := by
  have h := long_ok
  unfold longOk at h
  simp only [Bool.and_eq_true, beq_iff_eq] at h
  rw [long_words, List.length_map]
  exact h.1.1
theorem look_name {x y : List Nat} (h : (x, y) ∈ theNames) : lookW (T x) (Txt.split longText (Str.ofString " ")) = some (T y) := by
  have q := long_ok
  unfold longOk at q
  simp only [Bool.and_eq_true, List.all_eq_true] at q
  have := q.1.2 _ h
  rw [long_words, lookW_map, eq_of_beq this]
  rfl
theorem look_none {x : List Nat} (h : x ∈ noNames) : lookW (T x) (Txt.split longText (Str.ofString " ")) = none := by
  have q := long_ok
  unfold longOk at q
  simp only [Bool.and_eq_true, List.all_eq_true] at q
  have := q.2 _ h
  rw [long_words, lookW_map, eq_of_beq this]
  rfl
end Mine
end

section
open PySem PySem.W PyProof.Rows PySem.Spec PySem.Calls PySem.Builtin PySem.Builtin.Str
set_option maxRecDepth 100000
namespace Mine
noncomputable def oneOf (x : Str) (i : Int) (sg : Str) : Bool := decide (i < x.length) && !(Builtin.Str.occurrences sg (Txt.item x i) 0 sg.length 1).isEmpty
noncomputable def digN (x : Str) : Nat → Int → Int
  | 0, i => i
  | n + 1, i => if oneOf x i (Str.ofString "0123456789") then digN x n (i + 1) else i
noncomputable def digEnd (x : Str) (i : Int) : Int := digN x ((x.length : Int) - i).toNat i
noncomputable def wholeN : List Nat → Int → Int
  | [], a => a
  | c :: r, a => wholeN r (a * 10 + ((c : Int) - 48))
noncomputable def wholeS (x : Str) : Int := wholeN x.cps.toList 0
def allDig (x : Str) : Prop := ∀ c ∈ x.cps.toList, 48 ≤ c ∧ c ≤ 57
def isD (c : Nat) : Prop := 48 ≤ c ∧ c ≤ 57
noncomputable def digL : List Nat := [48, 49, 50, 51, 52, 53, 54, 55, 56, 57]
theorem digL_is : Str.ofString "0123456789" = T digL := by decide +kernel
theorem mem_digL {c : Nat} : c ∈ digL ↔ isD c := by
  show c ∈ List.range' 48 10 ↔ (48 ≤ c ∧ c ≤ 57)
  rw [List.mem_range'_1]
  exact ⟨fun h => ⟨h.1, Nat.le_of_lt_succ h.2⟩, fun h => ⟨h.1, Nat.lt_succ_of_le h.2⟩⟩
theorem charAt_T {l : List Nat} {i : Nat} (h : i < l.length) : Txt.charAt (T l) (i : Int) = some l[i] := by
  unfold Txt.charAt seqIndex?
  have e : (T l).length = l.length := T_len l
  rw [e]
  have h1 : ¬ ((i : Int) < 0) := by omega
  simp [h, h1]
theorem oneOf_at {l sg : List Nat} {i : Nat} (h : i < l.length) : oneOf (T l) (i : Int) (T sg) = decide (l[i] ∈ sg) := by
  unfold oneOf Txt.item
  rw [charAt_T h, Option.getD_some, StrLaws.found_one, T_len]
  have h2 : ((i : Nat) : Int) < (l.length : Int) := by omega
  simp [h2]
theorem oneOf_end {l : List Nat} {x : Int} {sg : Str} (h : (l.length : Int) ≤ x) : oneOf (T l) x sg = false := by
  unfold oneOf
  rw [T_len]
  have : ¬ x < (l.length : Int) := by omega
  simp [this]
theorem oneOf_mid {a r sg : List Nat} {c : Nat} : oneOf (T (a ++ c :: r)) (a.length : Int) (T sg) = decide (c ∈ sg) := by
  rw [oneOf_at (i := a.length) (by simp)]
  simp
theorem digN_run : ∀ (ds a rest : List Nat), (∀ c ∈ ds, isD c) → (∀ c, rest.head? = some c → ¬ isD c) → digN (T (a ++ (ds ++ rest))) (ds.length + rest.length) (a.length : Int) = ((a.length + ds.length : Nat) : Int)
  | [], a, [], _, _ => by simp [digN]
  | [], a, c :: r, _, h => by
    show digN _ (0 + (r.length + 1)) _ = _
    rw [Nat.zero_add, digN, digL_is, List.nil_append, oneOf_mid]
    have : ¬ c ∈ digL := fun q => h c rfl (mem_digL.mp q)
    simp [this]
  | d :: ds, a, rest, h1, h2 => by
    have hd : d ∈ digL := mem_digL.mpr (h1 d List.mem_cons_self)
    have e : (d :: ds).length + rest.length = (ds.length + rest.length) + 1 := by simp; omega
    have ih := digN_run ds (a ++ [d]) rest (fun c hc => h1 c (List.mem_cons_of_mem _ hc)) h2
    rw [e, digN, digL_is, List.cons_append, oneOf_mid]
    simp only [hd, decide_true, if_true]
    have e2 : a ++ d :: (ds ++ rest) = (a ++ [d]) ++ (ds ++ rest) := by simp
    have e3 : ((a.length : Int) + 1) = ((a ++ [d]).length : Int) := by simp
    rw [e2, e3, ih]
    simp
    omega
theorem digEnd_run {ds a rest : List Nat} (h1 : ∀ c ∈ ds, isD c) (h2 : ∀ c, rest.head? = some c → ¬ isD c) : digEnd (T (a ++ (ds ++ rest))) (a.length : Int) = ((a.length + ds.length : Nat) : Int) := by
  unfold digEnd
  rw [T_len, ← digN_run ds a rest h1 h2]
  congr 1
  simp
  omega
/-- the signs of a number -/
noncomputable def numL (n : Nat) : List Nat := (Nat.toDigits 10 n).map Char.toNat
theorem num_text (n : Nat) : Str.ofString (toString ((n : Nat) : Int)) = T (numL n) := Fast.ofString_ofList (Nat.toDigits 10 n)
noncomputable def numB (n : Nat) : Bool := (numL n).all (fun c => 48 <= c && c <= 57) && (numL n).length <= 3 && !(numL n).isEmpty && wholeN (numL n) 0 == (n : Int)
theorem num_all : ∀ n : Fin 1000, numB n.1 = true := by decide +kernel
structure NumL (n : Nat) (ds : List Nat) : Prop where
  dig : ∀ c ∈ ds, isD c
  len : ds.length ≤ 3
  ne : ds ≠ []
  val : wholeN ds 0 = (n : Int)
theorem num_is {n : Nat} (h : n < 1000) : NumL n (numL n) := by
  have q := num_all ⟨n, h⟩
  unfold numB at q
  simp only [Bool.and_eq_true, List.all_eq_true, decide_eq_true_eq, Bool.not_eq_true', beq_iff_eq] at q
  exact ⟨q.1.1.1, q.1.1.2, fun z => by rw [z] at q; simp at q, q.2⟩
theorem neg_text : Str.ofString (toString (-3 : Int)) = T [45, 51] := by decide +kernel
theorem wholeN_app : ∀ (a : List Nat) (c : Nat) (x : Int), wholeN (a ++ [c]) x = wholeN a x * 10 + ((c : Int) - 48)
  | [], c, x => rfl
  | d :: r, c, x => wholeN_app r c _
theorem numS_len {n : Int} (h : -3 ≤ n ∧ n ≤ 999) : (Str.ofString (toString n)).length ≤ 4 := by
  by_cases h0 : 0 ≤ n
  · obtain ⟨k, rfl⟩ := Int.eq_ofNat_of_zero_le h0
    rw [num_text, T_len]
    have := (num_is (n := k) (by omega)).len
    omega
  · have : n = -3 ∨ n = -2 ∨ n = -1 := by omega
    rcases this with rfl | rfl | rfl <;> decide +kernel
end Mine
end

section
open PySem PySem.W PyProof.Rows PySem.Spec PySem.Calls
set_option maxRecDepth 100000
namespace Mine
variable {w : World} {mean : ExcName → Option Value} {mg mb : Str → Option Value}
local macro_rules | `(tactic| k_mem) => `(tactic| assumption)
local macro_rules | `(tactic| k_lt $_h:ident) => `(tactic| skip)
local macro_rules | `(tactic| k_all) => `(tactic| k_extra "k_all")
local macro_rules | `(tactic| k_ne) => `(tactic| k_extra "k_ne")
local macro_rules | `(tactic| ktr_room) => `(tactic| k_extra "room")
local macro_rules | `(tactic| ktr_units) => `(tactic| k_extra "units")
local macro_rules | `(tactic| lcg_src) => `(tactic| k_extra "lcg_src")
local macro_rules | `(tactic| k_mem) => `(tactic| k_extra "k_mem")
local macro_rules | `(tactic| k_qdec) => `(tactic| decide +kernel)
local macro_rules | `(tactic| walk_at $s:str) => `(tactic| k_extra $s)
local macro_rules | `(tactic| walk_at "x.fault") => `(tactic| (k_here; k_dflt (refine' fault_is _ ?kC _ _ _ ?k1 ?k2 ?k3 ?k4 ?k5 ?kA ?kF ?kK ?kd ?_; (case kC => first | exact Or.inl rfl | exact Or.inr rfl); (case kA => exact rfl); (case kF => exact rfl); (case kK => first | exact rfl | assumption); (case k1 => k_asm); (case k2 => k_asm); (case k3 => k_asm); (case k4 => k_asm); (case k5 => k_asm); (case kd => first | ktr_room | (show dp + 1 + 2 < recursionLimit; omega))); intro e9 t9 d9 h9 tk9 F9 N9 ne9; (try dsimp only); (try k_fold)))

section
example : True := by
  k_with_none
  k_with "k_all" => (first | assumption | (intro p9 hp9; (repeat' (first | (with_reducible rename (∀ p : Addr × Obj, p ∈ (_ : List (Addr × Obj)) → @LT.lt Nat _ p.1 _) => hq9; first | replace hq9 := ltN (hq9 p9 hp9) | clear hq9) | (with_reducible rename AllLt _ _ => hq9; first | replace hq9 := ltN (ktn_ltOf hq9 p9 hp9) | clear hq9) | (with_reducible rename (_ ∧ AllLt _ _) => hq9; obtain ⟨hz9, hq9⟩ := hq9))); (refine neN ?_); omega))
  k_with "k_ne" => ((refine neN ?_; (try dsimp only); first | with_reducible assumption | exact Ne.symm (by with_reducible assumption) | exact ne_above (by with_reducible assumption) (by k_mem) | exact Ne.symm (ne_above (by with_reducible assumption) (by k_mem)) | exact ne_above1 (by with_reducible assumption) (by k_mem) | exact Ne.symm (ne_above1 (by with_reducible assumption) (by k_mem))))
  k_with "room" => (first | exact room_at (by with_reducible assumption) rfl rfl | exact room_at0 (by with_reducible assumption) rfl | exact room_at1 (by with_reducible assumption) rfl rfl)
  k_with "units" => (exact units_at (by with_reducible assumption) rfl rfl)
  k_with "x.p" => (refine' Prem.mk ?_ ?_ ?_ ?_ ?_ ?_ ?_ ?_; rotate_right 8; (focus k_asm); (focus k_asm); (focus k_asm); (focus (k_asm)); (focus k_asm); (focus (first | exact rfl | assumption)); (focus ktr_room); (focus ktr_units))
  k_with "x.pn" => (refine' Prem.mk ?_ ?_ ?_ ?_ ?_ ?_ ?_ ?_; rotate_right 8; (focus k_asm); (focus k_asm); (focus k_asm); (focus (first | k_asm | exact news_rot1 (by k_asm) | exact news_rot2 (by k_asm))); (focus k_asm); (focus (first | exact rfl | assumption)); (focus ktr_room); (focus ktr_units))
  k_with "x.pr" => (refine' Prem.mk ?_ ?_ ?_ ?_ ?_ ?_ ?_ ?_; rotate_right 8; (focus k_asm); (focus k_asm); (focus k_asm); (focus (first | k_asm | exact rot1 (by k_asm) | exact rot2 (by k_asm) | exact rot3 (by k_asm))); (focus k_asm); (focus (first | exact rfl | assumption)); (focus ktr_room); (focus ktr_units))
  k_with "x.t" => (intro t9 h9 tk9 F9 N9; (try dsimp only); (try k_fold))
  k_with "x.2" => (intro x9 t91 t92 h9 tk9 F9 N9 l9; (try k_lt l9); (try dsimp only); (try k_fold))
  k_with "x.3" => (intro x9 t91 t92 t93 h9 tk9 F9 N9 l9; (try k_lt l9); (try dsimp only); (try k_fold))
  k_with "x.4" => (intro x9 t91 t92 t93 t94 h9 tk9 F9 N9 l9; (try k_lt l9); (try dsimp only); (try k_fold))
  k_with "x.tt" => (intro t9 t91 h9 tk9 F9 N9; (try dsimp only); (try k_fold))
  k_with "x.take" => (intro d9 a9 b9 t9 t91 t92 n9 h9 tk9 hd0 hd1 ha9 hb9 hb99 F9 N9; (have hb9' := And.intro hb9 hb99); (try dsimp only); (try k_fold))
  k_with "x.r" => (intro e9 t9 ws9 h9 tk9 G9 FG9 R9 U9; (try dsimp only); (try k_fold))
  k_with "x.c" => (intro h9 tk9 g9 T9 F9 N9 B9 X9 P9 D9; (try dsimp only); (try k_fold))
  k_with "eval Name" => ((k_here; (first | ((with_reducible show wpAny _ _ (eval (Expr.Name _ _) (compEnvC _ _ _ _)) _ _ _); k_dflt (first | (name_kind "local"; refine' LCgL.ld_own ?_ ?_ ?_ ?_ ?_ ?_ ?_ ?_; rotate_right 8; rotate_left 6; (focus (first | kernel_rfl! | rfl)); rotate_right 6; rotate_left 5; (focus (rfl)); rotate_right 5; rotate_left 5; (focus (decide)); rotate_right 5; (focus (k_asm)); (focus (k_mem)); (focus (assumption)); (focus (assumption))) | (name_kind "globalImplicit"; first | (refine' LCgL.ld_global ?_ ?_ ?_ ?_ ?_ ?_ ?_ ?_ ?_; rotate_right 9; rotate_left 7; (focus (first | kernel_rfl! | rfl)); rotate_right 7; (focus (k_asm)); (focus (k_asm)); (focus (k_asm)); (focus (k_is)); rotate_left 1; (focus (rfl)); rotate_right 1; rotate_left 1; (focus (rfl)); rotate_right 1; rotate_left 1; (focus (decide)); rotate_right 1) | (refine' LCgL.ld_built ?_ ?_ ?_ ?_ ?_ ?_ ?_ ?_ ?_ ?_ ?_ ?_; rotate_right 12; rotate_left 10; (focus (first | kernel_rfl! | rfl)); rotate_right 10; (focus (k_asm)); (focus (k_asm)); (focus (k_asm)); (focus (k_is)); (focus (boot_by_name)); (focus (decide)); rotate_left 1; (focus (rfl)); rotate_right 1; rotate_left 1; (focus (rfl)); rotate_right 1; rotate_left 1; (focus (rfl)); rotate_right 1; rotate_left 1; (focus (decide)); rotate_right 1))) ) | ((fail_if_success (with_reducible show wpAny _ _ (eval (Expr.Name _ _) (compEnvC _ _ _ _)) _ _ _)); k_dflt (first | (name_kind "local"; refine' nameX_L ?_ ?_ ?_ ?_ ?_; rotate_right 5; rotate_left 4; (focus (first | kernel_rfl! | rfl)); rotate_right 4; rotate_left 3; (focus (rfl)); rotate_right 3; (focus (k_asm)); (focus (rfl)); k_whole) | (name_kind "globalImplicit"; first | (refine' nameX_K ?_ ?_ ?_ ?_ ?_ ?_ ?_; rotate_right 7; rotate_left 6; (focus (first | kernel_rfl! | rfl)); rotate_right 6; (focus (k_asm)); (focus (k_asm)); (focus (k_asm)); rotate_left 2; (focus (rfl)); rotate_right 2; (focus (k_is)); k_whole) | (refine' nameX_B ?_ ?_ ?_ ?_ ?_ ?_ ?_ ?_ ?_; rotate_right 9; rotate_left 8; (focus (first | kernel_rfl! | rfl)); rotate_right 8; (focus (k_asm)); (focus (k_asm)); (focus (k_asm)); rotate_left 4; (focus (rfl)); rotate_right 4; (focus (k_is)); (focus (boot_fast)); (focus (decide)); k_whole)) | (name_kind "cell"; refine' nameX_C ?_ ?_ ?_ ?_ ?_ ?_ ?_; rotate_right 7; rotate_left 6; (focus (first | kernel_rfl! | rfl)); rotate_right 6; rotate_left 5; (focus (rfl)); rotate_right 5; (focus (k_asm)); (focus (rfl)); (focus (k_mem)); (focus (k_asm)); k_whole))))))
  k_with "fold" => ((fail_if_success (fail_if_success k_fold)); (refine (let qk := _; let ek := _; (?_ : wpAny _ _ _ qk ek _))))
  k_with "isTrue BoolOp" => (k_here; k_extra "fold")
  k_with "isTrue Compare" => (k_here; k_extra "fold")
  k_with "isTrue UnaryOp" => (k_here; k_extra "fold")
  k_with "eval Call" => (k_here; k_extra "fold")
  k_with "eval Compare" => (k_here; k_extra "fold")
  k_with "eval BinOp" => (k_here; k_extra "fold")
  k_with "eval Tuple" => (k_here; k_extra "fold")
  k_with "eval List" => (k_here; k_extra "fold")
  trivial
theorem big_nonneg (x : Int) (b : Bool) : 0 ≤ (if -1 - x > x then -1 - x else x) * (if b = true then (1 : Int) else 0) := by
  cases b
  · simp
  · simp only [if_true, Int.mul_one]
    split <;> omega
set_option maxHeartbeats 4000000 in
theorem pool_is (k : Int) (t1 : Tok) (news : List (Addr × Obj)) (l : Addr) (vs : List Value) (ns : List Int) (hk0 : 0 ≤ k ∧ k ≤ 1) (hn : ns.length ≤ 63) :
    ∀ (dp un : Nat) (gd : Option (List Code)) (cn : Str) (cs : Scope) (a : Addr) (ccd : Value) (cl : List (Str × Addr)) (outer : List Env) (A₀ : Around) (base h₀ : Heap) (L : Addr) (m : Str → Option Value) (s : Shared) (Q E : Value → Shared → Prop),
    Below A₀ base outer h₀ → Fr h₀ L s.heap m → (laid.heap_1 w.params).In h₀ → News h₀ L s.heap news → Top hd.view_1 (looseW hd.view_1 [Str.ofString "fraction"]) mean mg mb h₀ → cs.kind = .function →
    base.IsList l vs.toArray → IntsAre vs ns → dp + 1 < recursionLimit → un + 8 < cLine →
    (∀ x a b t1 t2 h' tk', 0 ≤ a → 0 ≤ b → b < 2147483647 → Fr h₀ L h' m → News h₀ L h' ((x, listOf #[.int a t1, .int b t2] 0) :: news) → (∀ p ∈ news, p.1 < x) → Q (.ref x) { s with heap := h', toks := tk' }) →
    wpAny (model PySem.Challenge.rw_nu0021_01.row.prog w) (ktrTop dp un gd cn cs L a ccd cl outer) (call (.ref 238) [.ref l, .int k t1]) Q E s := by
  intro dp un gd cn cs a9 ccd cl outer A₀ base h₀ L m s Q E B F X N T hk hl hi hd9 hu9 hret
  suffices hz : (laid.heap_1 = laid.heap_1 → PySem.Challenge.rw_nu0021_01 = PySem.Challenge.rw_nu0021_01 → _) from hz rfl rfl
  k_fill
  intro _ _
  refine wpAny_call ?_
  k_dflt cell_enter
  k_steps
  · refine' hret _ _ _ _ _ _ _ ?za1 ?zb1 ?zc1 ?zf1 ?zn1 ?zo1
    case zf1 => assumption
    case zn1 => assumption
    case zo1 => (first | exact lts_of (by assumption) (fun p hp => by repeat (first | exact hp | refine List.mem_cons_of_mem _ ?_)) | (intro p9 hp9; (repeat' (first | (with_reducible rename (∀ p : Addr × Obj, p ∈ (_ : List (Addr × Obj)) → @LT.lt Nat _ p.1 _) => hq9; first | replace hq9 := ltN (hq9 p9 hp9) | clear hq9) | (with_reducible rename AllLt _ _ => hq9; first | replace hq9 := ltN (ktn_ltOf hq9 p9 hp9) | clear hq9) | (with_reducible rename (_ ∧ AllLt _ _) => hq9; obtain ⟨hz9, hq9⟩ := hq9) | (with_reducible rename (_ ∧ _ ∧ AllLt _ _) => hq9; obtain ⟨hz9, hq9⟩ := hq9) | (with_reducible rename (_ ∧ _ ∧ _ ∧ AllLt _ _) => hq9; obtain ⟨hz9, hq9⟩ := hq9) | (with_reducible rename (_ ∧ _ ∧ _ ∧ _ ∧ AllLt _ _) => hq9; obtain ⟨hz9, hq9⟩ := hq9) | (with_reducible rename (_ ∧ _ ∧ _ ∧ _ ∧ _ ∧ AllLt _ _) => hq9; obtain ⟨hz9, hq9⟩ := hq9) | (with_reducible rename (_ ∧ _ ∧ _ ∧ _ ∧ _ ∧ _ ∧ AllLt _ _) => hq9; obtain ⟨hz9, hq9⟩ := hq9) | (with_reducible rename (_ ∧ _ ∧ _ ∧ _ ∧ _ ∧ _ ∧ _ ∧ AllLt _ _) => hq9; obtain ⟨hz9, hq9⟩ := hq9) | (with_reducible rename (_ ∧ _ ∧ _ ∧ _ ∧ _ ∧ _ ∧ _ ∧ _ ∧ AllLt _ _) => hq9; obtain ⟨hz9, hq9⟩ := hq9))); first | assumption | (refine ltN ?_; omega)))
    case za1 => exact big_nonneg _ _
    case zb1 => rw [fm _ _ (by decide)]; exact Int.emod_nonneg _ (by decide)
    case zc1 => rw [fm _ _ (by decide)]; exact Int.emod_lt_of_pos _ (by decide)
  · refine' hret _ _ _ _ _ _ _ ?za2 ?zb2 ?zc2 ?zf2 ?zn2 ?zo2
    case zf2 => assumption
    case zn2 => assumption
    case zo2 => (first | exact lts_of (by assumption) (fun p hp => by repeat (first | exact hp | refine List.mem_cons_of_mem _ ?_)) | (intro p9 hp9; (repeat' (first | (with_reducible rename (∀ p : Addr × Obj, p ∈ (_ : List (Addr × Obj)) → @LT.lt Nat _ p.1 _) => hq9; first | replace hq9 := ltN (hq9 p9 hp9) | clear hq9) | (with_reducible rename AllLt _ _ => hq9; first | replace hq9 := ltN (ktn_ltOf hq9 p9 hp9) | clear hq9) | (with_reducible rename (_ ∧ AllLt _ _) => hq9; obtain ⟨hz9, hq9⟩ := hq9) | (with_reducible rename (_ ∧ _ ∧ AllLt _ _) => hq9; obtain ⟨hz9, hq9⟩ := hq9) | (with_reducible rename (_ ∧ _ ∧ _ ∧ AllLt _ _) => hq9; obtain ⟨hz9, hq9⟩ := hq9) | (with_reducible rename (_ ∧ _ ∧ _ ∧ _ ∧ AllLt _ _) => hq9; obtain ⟨hz9, hq9⟩ := hq9) | (with_reducible rename (_ ∧ _ ∧ _ ∧ _ ∧ _ ∧ AllLt _ _) => hq9; obtain ⟨hz9, hq9⟩ := hq9) | (with_reducible rename (_ ∧ _ ∧ _ ∧ _ ∧ _ ∧ _ ∧ AllLt _ _) => hq9; obtain ⟨hz9, hq9⟩ := hq9) | (with_reducible rename (_ ∧ _ ∧ _ ∧ _ ∧ _ ∧ _ ∧ _ ∧ AllLt _ _) => hq9; obtain ⟨hz9, hq9⟩ := hq9) | (with_reducible rename (_ ∧ _ ∧ _ ∧ _ ∧ _ ∧ _ ∧ _ ∧ _ ∧ AllLt _ _) => hq9; obtain ⟨hz9, hq9⟩ := hq9))); first | assumption | (refine ltN ?_; omega)))
    case za2 => exact big_nonneg _ _
    case zb2 => rw [fm _ _ (by decide)]; exact Int.emod_nonneg _ (by decide)
    case zc2 => rw [fm _ _ (by decide)]; exact Int.emod_lt_of_pos _ (by decide)
end

section
example : True := by
  k_with_none
  k_with "k_all" => (first | assumption | (intro p9 hp9; (repeat' (first | (with_reducible rename (∀ p : Addr × Obj, p ∈ (_ : List (Addr × Obj)) → @LT.lt Nat _ p.1 _) => hq9; first | replace hq9 := ltN (hq9 p9 hp9) | clear hq9) | (with_reducible rename AllLt _ _ => hq9; first | replace hq9 := ltN (ktn_ltOf hq9 p9 hp9) | clear hq9) | (with_reducible rename (_ ∧ AllLt _ _) => hq9; obtain ⟨hz9, hq9⟩ := hq9))); (refine neN ?_); omega))
  k_with "k_ne" => ((refine neN ?_; (try dsimp only); first | with_reducible assumption | exact Ne.symm (by with_reducible assumption) | exact ne_above (by with_reducible assumption) (by k_mem) | exact Ne.symm (ne_above (by with_reducible assumption) (by k_mem)) | exact ne_above1 (by with_reducible assumption) (by k_mem) | exact Ne.symm (ne_above1 (by with_reducible assumption) (by k_mem))))
  k_with "room" => (first | exact room_at (by with_reducible assumption) rfl rfl | exact room_at0 (by with_reducible assumption) rfl | exact room_at1 (by with_reducible assumption) rfl rfl)
  k_with "units" => (exact units_at (by with_reducible assumption) rfl rfl)
  k_with "x.p" => (refine' Prem.mk ?_ ?_ ?_ ?_ ?_ ?_ ?_ ?_; rotate_right 8; (focus k_asm); (focus k_asm); (focus k_asm); (focus (k_asm)); (focus k_asm); (focus (first | exact rfl | assumption)); (focus ktr_room); (focus ktr_units))
  k_with "x.pn" => (refine' Prem.mk ?_ ?_ ?_ ?_ ?_ ?_ ?_ ?_; rotate_right 8; (focus k_asm); (focus k_asm); (focus k_asm); (focus (first | k_asm | exact news_rot1 (by k_asm) | exact news_rot2 (by k_asm))); (focus k_asm); (focus (first | exact rfl | assumption)); (focus ktr_room); (focus ktr_units))
  k_with "x.pr" => (refine' Prem.mk ?_ ?_ ?_ ?_ ?_ ?_ ?_ ?_; rotate_right 8; (focus k_asm); (focus k_asm); (focus k_asm); (focus (first | k_asm | exact rot1 (by k_asm) | exact rot2 (by k_asm) | exact rot3 (by k_asm))); (focus k_asm); (focus (first | exact rfl | assumption)); (focus ktr_room); (focus ktr_units))
  k_with "x.t" => (intro t9 h9 tk9 F9 N9; (try dsimp only); (try k_fold))
  k_with "x.2" => (intro x9 t91 t92 h9 tk9 F9 N9 l9; (try k_lt l9); (try dsimp only); (try k_fold))
  k_with "x.3" => (intro x9 t91 t92 t93 h9 tk9 F9 N9 l9; (try k_lt l9); (try dsimp only); (try k_fold))
  k_with "x.4" => (intro x9 t91 t92 t93 t94 h9 tk9 F9 N9 l9; (try k_lt l9); (try dsimp only); (try k_fold))
  k_with "x.tt" => (intro t9 t91 h9 tk9 F9 N9; (try dsimp only); (try k_fold))
  k_with "x.take" => (intro d9 a9 b9 t9 t91 t92 n9 h9 tk9 hd0 hd1 ha9 hb9 hb99 F9 N9; (have hb9' := And.intro hb9 hb99); (try dsimp only); (try k_fold))
  k_with "x.r" => (intro e9 t9 ws9 h9 tk9 G9 FG9 R9 U9; (try dsimp only); (try k_fold))
  k_with "x.c" => (intro h9 tk9 g9 T9 F9 N9 B9 X9 P9 D9; (try dsimp only); (try k_fold))
  k_with "eval Name" => ((k_here; (first | ((with_reducible show wpAny _ _ (eval (Expr.Name _ _) (compEnvC _ _ _ _)) _ _ _); k_dflt (first | (name_kind "local"; refine' LCgL.ld_own ?_ ?_ ?_ ?_ ?_ ?_ ?_ ?_; rotate_right 8; rotate_left 6; (focus (first | kernel_rfl! | rfl)); rotate_right 6; rotate_left 5; (focus (rfl)); rotate_right 5; rotate_left 5; (focus (decide)); rotate_right 5; (focus (k_asm)); (focus (k_mem)); (focus (assumption)); (focus (assumption))) | (name_kind "globalImplicit"; first | (refine' LCgL.ld_global ?_ ?_ ?_ ?_ ?_ ?_ ?_ ?_ ?_; rotate_right 9; rotate_left 7; (focus (first | kernel_rfl! | rfl)); rotate_right 7; (focus (k_asm)); (focus (k_asm)); (focus (k_asm)); (focus (k_is)); rotate_left 1; (focus (rfl)); rotate_right 1; rotate_left 1; (focus (rfl)); rotate_right 1; rotate_left 1; (focus (decide)); rotate_right 1) | (refine' LCgL.ld_built ?_ ?_ ?_ ?_ ?_ ?_ ?_ ?_ ?_ ?_ ?_ ?_; rotate_right 12; rotate_left 10; (focus (first | kernel_rfl! | rfl)); rotate_right 10; (focus (k_asm)); (focus (k_asm)); (focus (k_asm)); (focus (k_is)); (focus (boot_by_name)); (focus (decide)); rotate_left 1; (focus (rfl)); rotate_right 1; rotate_left 1; (focus (rfl)); rotate_right 1; rotate_left 1; (focus (rfl)); rotate_right 1; rotate_left 1; (focus (decide)); rotate_right 1))) ) | ((fail_if_success (with_reducible show wpAny _ _ (eval (Expr.Name _ _) (compEnvC _ _ _ _)) _ _ _)); k_dflt (first | (name_kind "local"; refine' nameX_L ?_ ?_ ?_ ?_ ?_; rotate_right 5; rotate_left 4; (focus (first | kernel_rfl! | rfl)); rotate_right 4; rotate_left 3; (focus (rfl)); rotate_right 3; (focus (k_asm)); (focus (rfl)); k_whole) | (name_kind "globalImplicit"; first | (refine' nameX_K ?_ ?_ ?_ ?_ ?_ ?_ ?_; rotate_right 7; rotate_left 6; (focus (first | kernel_rfl! | rfl)); rotate_right 6; (focus (k_asm)); (focus (k_asm)); (focus (k_asm)); rotate_left 2; (focus (rfl)); rotate_right 2; (focus (k_is)); k_whole) | (refine' nameX_B ?_ ?_ ?_ ?_ ?_ ?_ ?_ ?_ ?_; rotate_right 9; rotate_left 8; (focus (first | kernel_rfl! | rfl)); rotate_right 8; (focus (k_asm)); (focus (k_asm)); (focus (k_asm)); rotate_left 4; (focus (rfl)); rotate_right 4; (focus (k_is)); (focus (boot_fast)); (focus (decide)); k_whole)) | (name_kind "cell"; refine' nameX_C ?_ ?_ ?_ ?_ ?_ ?_ ?_; rotate_right 7; rotate_left 6; (focus (first | kernel_rfl! | rfl)); rotate_right 6; rotate_left 5; (focus (rfl)); rotate_right 5; (focus (k_asm)); (focus (rfl)); (focus (k_mem)); (focus (k_asm)); k_whole))))))
  k_with "fold" => ((fail_if_success (fail_if_success k_fold)); (refine (let qk := _; let ek := _; (?_ : wpAny _ _ _ qk ek _))))
  k_with "isTrue BoolOp" => (k_here; k_extra "fold")
  k_with "isTrue Compare" => (k_here; k_extra "fold")
  k_with "isTrue UnaryOp" => (k_here; k_extra "fold")
  k_with "eval Call" => (k_here; k_extra "fold")
  k_with "eval Compare" => (k_here; k_extra "fold")
  k_with "eval BinOp" => (k_here; k_extra "fold")
  k_with "eval Tuple" => (k_here; k_extra "fold")
  k_with "eval List" => (k_here; k_extra "fold")
  trivial
example : True := by
  k_with "binaryOp Mult int int" => ((refine mul_int ?_ (mulR (by first | omega | (simp only [List.getD_cons_zero, List.getD_cons_succ, Int.toNat_one, Int.toNat_zero, Int.reduceToNat, fm _ 2147483647 (by decide)]; omega)))))
  trivial
set_option maxHeartbeats 4000000 in
theorem take_head (a b top : Int) (ta tb tt : Tok) (l : Addr) (n : Nat) (rest : List (Addr × Obj)) (hl : ∀ p ∈ rest, p.1 ≠ l) (ha : 0 ≤ a) (hb : 0 ≤ b ∧ b < 2147483647) (ht : 0 < top ∧ top ≤ 10000) :
    CallOf w mean mg mb 245 [.ref l, .int top tt] 1 ((l, listOf #[.int a ta, .int b tb] n) :: rest) (fun h₀ L m s Q => ∀ d a' b' t t1 t2 n' h' tk', 0 ≤ d → d < top → 0 ≤ a' → 0 ≤ b' → b' < 2147483647 → Fr h₀ L h' m → News h₀ L h' ((l, listOf #[.int a' t1, .int b' t2] n') :: rest) → Q (.int d t) {s with heap := h', toks := tk'}) := by
  dsimp only [CallOf]
  intro dp un gd cn cs a9 ccd cl outer A₀ base h₀ L m s Q E B F X N T hk hd9 hu9 hret
  suffices hz : (laid.heap_1 = laid.heap_1 → PySem.Challenge.rw_nu0021_01 = PySem.Challenge.rw_nu0021_01 → _) from hz rfl rfl
  k_fill
  intro _ _
  refine wpAny_call ?_
  k_dflt (refine' code_def ?k1 ?k2 ?k3 ?k4 ?k5 ?kA ?kF ?kK ?k6 ?k7 ?k8 ?k9 ?kB ?_ ?c2 ?c3 ?c4 ?c5; (case kA => exact rfl); (case kF => exact rfl); (case kK => assumption); (case k1 => k_asm); (case k2 => k_asm); (case k3 => k_asm); (case k4 => k_asm); (case k5 => k_asm); (case k6 => k_is); (case k7 => k_is); (case k8 => ktr_room); (case k9 => first | exact BindsTo.of_eq rfl | exact binds_K (by k_in) rfl (by k_is) rfl rfl rfl); (case c5 => decide); (case kB => exact locs rfl); (case c2 => exact rfl); (case c3 => exact rfl); (case c4 => exact rfl); k_whole; intro g' L' h' FG' F' N' B' X' T'; (try dsimp only); (try k_lift B'); (try k_fold))
  k_steps
  · refine' hret _ _ _ _ _ _ _ _ _ ?q1 ?q2 ?q3 ?q4 ?q5 ?q6 ?q7
    case q6 => assumption
    case q7 => assumption
    case q1 => rw [fm _ _ (by omega)]; exact Int.emod_nonneg _ (by omega)
    case q2 => rw [fm _ _ (by omega)]; exact Int.emod_lt_of_pos _ (by omega)
    case q3 => rw [fd _ _ (by omega)]; exact Int.ediv_nonneg ha (by omega)
    case q4 => exact hb.1
    case q5 => exact hb.2
  · refine' hret _ _ _ _ _ _ _ _ _ ?q1 ?q2 ?q3 ?q4 ?q5 ?q6 ?q7
    case q6 => assumption
    case q7 => assumption
    case q1 => rw [fm _ _ (by omega)]; exact Int.emod_nonneg _ (by omega)
    case q2 => rw [fm _ _ (by omega)]; exact Int.emod_lt_of_pos _ (by omega)
    case q3 => exact ha
    case q4 => rw [fm _ _ (by omega)]; exact Int.emod_nonneg _ (by omega)
    case q5 => rw [fm _ _ (by omega)]; exact Int.emod_lt_of_pos _ (by omega)
end

section
example : True := by
  k_with_none
  k_with "k_all" => (first | assumption | (intro p9 hp9; (repeat' (first | (with_reducible rename (∀ p : Addr × Obj, p ∈ (_ : List (Addr × Obj)) → @LT.lt Nat _ p.1 _) => hq9; first | replace hq9 := ltN (hq9 p9 hp9) | clear hq9) | (with_reducible rename AllLt _ _ => hq9; first | replace hq9 := ltN (ktn_ltOf hq9 p9 hp9) | clear hq9) | (with_reducible rename (_ ∧ AllLt _ _) => hq9; obtain ⟨hz9, hq9⟩ := hq9))); (refine neN ?_); omega))
  k_with "k_ne" => ((refine neN ?_; (try dsimp only); first | with_reducible assumption | exact Ne.symm (by with_reducible assumption) | exact ne_above (by with_reducible assumption) (by k_mem) | exact Ne.symm (ne_above (by with_reducible assumption) (by k_mem)) | exact ne_above1 (by with_reducible assumption) (by k_mem) | exact Ne.symm (ne_above1 (by with_reducible assumption) (by k_mem))))
  k_with "room" => (first | exact room_at (by with_reducible assumption) rfl rfl | exact room_at0 (by with_reducible assumption) rfl | exact room_at1 (by with_reducible assumption) rfl rfl)
  k_with "units" => (exact units_at (by with_reducible assumption) rfl rfl)
  k_with "x.p" => (refine' Prem.mk ?_ ?_ ?_ ?_ ?_ ?_ ?_ ?_; rotate_right 8; (focus k_asm); (focus k_asm); (focus k_asm); (focus (k_asm)); (focus k_asm); (focus (first | exact rfl | assumption)); (focus ktr_room); (focus ktr_units))
  k_with "x.pn" => (refine' Prem.mk ?_ ?_ ?_ ?_ ?_ ?_ ?_ ?_; rotate_right 8; (focus k_asm); (focus k_asm); (focus k_asm); (focus (first | k_asm | exact news_rot1 (by k_asm) | exact news_rot2 (by k_asm))); (focus k_asm); (focus (first | exact rfl | assumption)); (focus ktr_room); (focus ktr_units))
  k_with "x.pr" => (refine' Prem.mk ?_ ?_ ?_ ?_ ?_ ?_ ?_ ?_; rotate_right 8; (focus k_asm); (focus k_asm); (focus k_asm); (focus (first | k_asm | exact rot1 (by k_asm) | exact rot2 (by k_asm) | exact rot3 (by k_asm))); (focus k_asm); (focus (first | exact rfl | assumption)); (focus ktr_room); (focus ktr_units))
  k_with "x.t" => (intro t9 h9 tk9 F9 N9; (try dsimp only); (try k_fold))
  k_with "x.2" => (intro x9 t91 t92 h9 tk9 F9 N9 l9; (try k_lt l9); (try dsimp only); (try k_fold))
  k_with "x.3" => (intro x9 t91 t92 t93 h9 tk9 F9 N9 l9; (try k_lt l9); (try dsimp only); (try k_fold))
  k_with "x.4" => (intro x9 t91 t92 t93 t94 h9 tk9 F9 N9 l9; (try k_lt l9); (try dsimp only); (try k_fold))
  k_with "x.tt" => (intro t9 t91 h9 tk9 F9 N9; (try dsimp only); (try k_fold))
  k_with "x.take" => (intro d9 a9 b9 t9 t91 t92 n9 h9 tk9 hd0 hd1 ha9 hb9 hb99 F9 N9; (have hb9' := And.intro hb9 hb99); (try dsimp only); (try k_fold))
  k_with "x.r" => (intro e9 t9 ws9 h9 tk9 G9 FG9 R9 U9; (try dsimp only); (try k_fold))
  k_with "x.c" => (intro h9 tk9 g9 T9 F9 N9 B9 X9 P9 D9; (try dsimp only); (try k_fold))
  k_with "eval Name" => ((k_here; (first | ((with_reducible show wpAny _ _ (eval (Expr.Name _ _) (compEnvC _ _ _ _)) _ _ _); k_dflt (first | (name_kind "local"; refine' LCgL.ld_own ?_ ?_ ?_ ?_ ?_ ?_ ?_ ?_; rotate_right 8; rotate_left 6; (focus (first | kernel_rfl! | rfl)); rotate_right 6; rotate_left 5; (focus (rfl)); rotate_right 5; rotate_left 5; (focus (decide)); rotate_right 5; (focus (k_asm)); (focus (k_mem)); (focus (assumption)); (focus (assumption))) | (name_kind "globalImplicit"; first | (refine' LCgL.ld_global ?_ ?_ ?_ ?_ ?_ ?_ ?_ ?_ ?_; rotate_right 9; rotate_left 7; (focus (first | kernel_rfl! | rfl)); rotate_right 7; (focus (k_asm)); (focus (k_asm)); (focus (k_asm)); (focus (k_is)); rotate_left 1; (focus (rfl)); rotate_right 1; rotate_left 1; (focus (rfl)); rotate_right 1; rotate_left 1; (focus (decide)); rotate_right 1) | (refine' LCgL.ld_built ?_ ?_ ?_ ?_ ?_ ?_ ?_ ?_ ?_ ?_ ?_ ?_; rotate_right 12; rotate_left 10; (focus (first | kernel_rfl! | rfl)); rotate_right 10; (focus (k_asm)); (focus (k_asm)); (focus (k_asm)); (focus (k_is)); (focus (boot_by_name)); (focus (decide)); rotate_left 1; (focus (rfl)); rotate_right 1; rotate_left 1; (focus (rfl)); rotate_right 1; rotate_left 1; (focus (rfl)); rotate_right 1; rotate_left 1; (focus (decide)); rotate_right 1))) ) | ((fail_if_success (with_reducible show wpAny _ _ (eval (Expr.Name _ _) (compEnvC _ _ _ _)) _ _ _)); k_dflt (first | (name_kind "local"; refine' nameX_L ?_ ?_ ?_ ?_ ?_; rotate_right 5; rotate_left 4; (focus (first | kernel_rfl! | rfl)); rotate_right 4; rotate_left 3; (focus (rfl)); rotate_right 3; (focus (k_asm)); (focus (rfl)); k_whole) | (name_kind "globalImplicit"; first | (refine' nameX_K ?_ ?_ ?_ ?_ ?_ ?_ ?_; rotate_right 7; rotate_left 6; (focus (first | kernel_rfl! | rfl)); rotate_right 6; (focus (k_asm)); (focus (k_asm)); (focus (k_asm)); rotate_left 2; (focus (rfl)); rotate_right 2; (focus (k_is)); k_whole) | (refine' nameX_B ?_ ?_ ?_ ?_ ?_ ?_ ?_ ?_ ?_; rotate_right 9; rotate_left 8; (focus (first | kernel_rfl! | rfl)); rotate_right 8; (focus (k_asm)); (focus (k_asm)); (focus (k_asm)); rotate_left 4; (focus (rfl)); rotate_right 4; (focus (k_is)); (focus (boot_fast)); (focus (decide)); k_whole)) | (name_kind "cell"; refine' nameX_C ?_ ?_ ?_ ?_ ?_ ?_ ?_; rotate_right 7; rotate_left 6; (focus (first | kernel_rfl! | rfl)); rotate_right 6; rotate_left 5; (focus (rfl)); rotate_right 5; (focus (k_asm)); (focus (rfl)); (focus (k_mem)); (focus (k_asm)); k_whole))))))
  k_with "fold" => ((fail_if_success (fail_if_success k_fold)); (refine (let qk := _; let ek := _; (?_ : wpAny _ _ _ qk ek _))))
  k_with "isTrue BoolOp" => (k_here; k_extra "fold")
  k_with "isTrue Compare" => (k_here; k_extra "fold")
  k_with "isTrue UnaryOp" => (k_here; k_extra "fold")
  k_with "eval Call" => (k_here; k_extra "fold")
  k_with "eval Compare" => (k_here; k_extra "fold")
  k_with "eval BinOp" => (k_here; k_extra "fold")
  k_with "eval Tuple" => (k_here; k_extra "fold")
  k_with "eval List" => (k_here; k_extra "fold")
  trivial
example : True := by
  k_with "call ref" => ((k_here; k_dflt (refine' callBy (take_head _ _ _ _ _ _ _ _ _ ?_ ?_ ?_ ?_) ?_ ?_; rotate_right 2; (focus (walk_at "x.p")); (all_goals skip); rotate_right 4; (focus (k_asm)); (focus (k_asm)); (focus (k_asm)); (focus (omega)); walk_at "x.take")))
  trivial
example : True := by
  k_with "call builtin:len" => ((k_here; k_dflt (refine' KM.len_K ?_ ?_ ?_ ?_ ?_; rotate_right 5; (focus (k_asm)); (focus (k_mem)); (focus (exact List.size_toArray)); (focus (omega)))))
  trivial
example : True := by
  k_with "subscriptTail" => ((k_here; (with_reducible show wpAny _ _ (subscriptTail _ _ (Value.ref _) (Value.int _ _)) _ _ _); k_dflt (refine' item_of ?_ ?_ ?_ ?_ ?_ ?_; rotate_right 6; (focus (exact News.isList (by k_asm) (by k_mem))); (focus (assumption)); (focus (assumption)); (focus (omega)); rotate_left 1; (focus (with_unfolding_all rfl)); rotate_right 1); intro v9 hv9 hx9))
  trivial
set_option maxHeartbeats 4000000 in
theorem one_head (a b : Int) (ta tb : Tok) (l y : Addr) (n k : Nat) (vs : List Value) (rest : List (Addr × Obj)) (hl : ∀ p ∈ rest, p.1 ≠ l) (hy : (y, listOf vs.toArray k) ∈ rest) (ha : 0 ≤ a) (hb : 0 ≤ b ∧ b < 2147483647) (hv : 0 < vs.length ∧ vs.length ≤ 100) :
    CallOf w mean mg mb 252 [.ref l, .ref y] 2 ((l, listOf #[.int a ta, .int b tb] n) :: rest) (fun h₀ L m s Q => ∀ v a' b' t1 t2 n' h' tk', v ∈ vs → 0 ≤ a' → 0 ≤ b' → b' < 2147483647 → Fr h₀ L h' m → News h₀ L h' ((l, listOf #[.int a' t1, .int b' t2] n') :: rest) → Q v {s with heap := h', toks := tk'}) := by
  dsimp only [CallOf]
  intro dp un gd cn cs a9 ccd cl outer A₀ base h₀ L m s Q E B F X N T hk hd9 hu9 hret
  suffices hz : (laid.heap_1 = laid.heap_1 → PySem.Challenge.rw_nu0021_01 = PySem.Challenge.rw_nu0021_01 → _) from hz rfl rfl
  k_fill
  intro _ _
  refine wpAny_call ?_
  k_dflt (refine' code_def ?k1 ?k2 ?k3 ?k4 ?k5 ?kA ?kF ?kK ?k6 ?k7 ?k8 ?k9 ?kB ?_ ?c2 ?c3 ?c4 ?c5; (case kA => exact rfl); (case kF => exact rfl); (case kK => assumption); (case k1 => k_asm); (case k2 => k_asm); (case k3 => k_asm); (case k4 => k_asm); (case k5 => k_asm); (case k6 => k_is); (case k7 => k_is); (case k8 => ktr_room); (case k9 => first | exact BindsTo.of_eq rfl | exact binds_K (by k_in) rfl (by k_is) rfl rfl rfl); (case c5 => decide); (case kB => exact locs rfl); (case c2 => exact rfl); (case c3 => exact rfl); (case c4 => exact rfl); k_whole; intro g' L' h' FG' F' N' B' X' T'; (try dsimp only); (try k_lift B'); (try k_fold))
  k_steps
  refine' hret _ _ _ _ _ _ _ _ ?h1 ?h2 ?h3 ?h4 ?h5 ?h6
  case h6 => assumption
  case h5 => assumption
  all_goals assumption
end

section
example : True := by
  k_with_none
  k_with "k_all" => (first | assumption | (intro p9 hp9; (repeat' (first | (with_reducible rename (∀ p : Addr × Obj, p ∈ (_ : List (Addr × Obj)) → @LT.lt Nat _ p.1 _) => hq9; first | replace hq9 := ltN (hq9 p9 hp9) | clear hq9) | (with_reducible rename AllLt _ _ => hq9; first | replace hq9 := ltN (ktn_ltOf hq9 p9 hp9) | clear hq9) | (with_reducible rename (_ ∧ AllLt _ _) => hq9; obtain ⟨hz9, hq9⟩ := hq9))); (refine neN ?_); omega))
  k_with "k_ne" => ((refine neN ?_; (try dsimp only); first | with_reducible assumption | exact Ne.symm (by with_reducible assumption) | exact ne_above (by with_reducible assumption) (by k_mem) | exact Ne.symm (ne_above (by with_reducible assumption) (by k_mem)) | exact ne_above1 (by with_reducible assumption) (by k_mem) | exact Ne.symm (ne_above1 (by with_reducible assumption) (by k_mem))))
  k_with "room" => (first | exact room_at (by with_reducible assumption) rfl rfl | exact room_at0 (by with_reducible assumption) rfl | exact room_at1 (by with_reducible assumption) rfl rfl)
  k_with "units" => (exact units_at (by with_reducible assumption) rfl rfl)
  k_with "x.p" => (refine' Prem.mk ?_ ?_ ?_ ?_ ?_ ?_ ?_ ?_; rotate_right 8; (focus k_asm); (focus k_asm); (focus k_asm); (focus (k_asm)); (focus k_asm); (focus (first | exact rfl | assumption)); (focus ktr_room); (focus ktr_units))
  k_with "x.pn" => (refine' Prem.mk ?_ ?_ ?_ ?_ ?_ ?_ ?_ ?_; rotate_right 8; (focus k_asm); (focus k_asm); (focus k_asm); (focus (first | k_asm | exact news_rot1 (by k_asm) | exact news_rot2 (by k_asm))); (focus k_asm); (focus (first | exact rfl | assumption)); (focus ktr_room); (focus ktr_units))
  k_with "x.pr" => (refine' Prem.mk ?_ ?_ ?_ ?_ ?_ ?_ ?_ ?_; rotate_right 8; (focus k_asm); (focus k_asm); (focus k_asm); (focus (first | k_asm | exact rot1 (by k_asm) | exact rot2 (by k_asm) | exact rot3 (by k_asm))); (focus k_asm); (focus (first | exact rfl | assumption)); (focus ktr_room); (focus ktr_units))
  k_with "x.t" => (intro t9 h9 tk9 F9 N9; (try dsimp only); (try k_fold))
  k_with "x.2" => (intro x9 t91 t92 h9 tk9 F9 N9 l9; (try k_lt l9); (try dsimp only); (try k_fold))
  k_with "x.3" => (intro x9 t91 t92 t93 h9 tk9 F9 N9 l9; (try k_lt l9); (try dsimp only); (try k_fold))
  k_with "x.4" => (intro x9 t91 t92 t93 t94 h9 tk9 F9 N9 l9; (try k_lt l9); (try dsimp only); (try k_fold))
  k_with "x.tt" => (intro t9 t91 h9 tk9 F9 N9; (try dsimp only); (try k_fold))
  k_with "x.take" => (intro d9 a9 b9 t9 t91 t92 n9 h9 tk9 hd0 hd1 ha9 hb9 hb99 F9 N9; (have hb9' := And.intro hb9 hb99); (try dsimp only); (try k_fold))
  k_with "x.r" => (intro e9 t9 ws9 h9 tk9 G9 FG9 R9 U9; (try dsimp only); (try k_fold))
  k_with "x.c" => (intro h9 tk9 g9 T9 F9 N9 B9 X9 P9 D9; (try dsimp only); (try k_fold))
  k_with "eval Name" => ((k_here; (first | ((with_reducible show wpAny _ _ (eval (Expr.Name _ _) (compEnvC _ _ _ _)) _ _ _); k_dflt (first | (name_kind "local"; refine' LCgL.ld_own ?_ ?_ ?_ ?_ ?_ ?_ ?_ ?_; rotate_right 8; rotate_left 6; (focus (first | kernel_rfl! | rfl)); rotate_right 6; rotate_left 5; (focus (rfl)); rotate_right 5; rotate_left 5; (focus (decide)); rotate_right 5; (focus (k_asm)); (focus (k_mem)); (focus (assumption)); (focus (assumption))) | (name_kind "globalImplicit"; first | (refine' LCgL.ld_global ?_ ?_ ?_ ?_ ?_ ?_ ?_ ?_ ?_; rotate_right 9; rotate_left 7; (focus (first | kernel_rfl! | rfl)); rotate_right 7; (focus (k_asm)); (focus (k_asm)); (focus (k_asm)); (focus (k_is)); rotate_left 1; (focus (rfl)); rotate_right 1; rotate_left 1; (focus (rfl)); rotate_right 1; rotate_left 1; (focus (decide)); rotate_right 1) | (refine' LCgL.ld_built ?_ ?_ ?_ ?_ ?_ ?_ ?_ ?_ ?_ ?_ ?_ ?_; rotate_right 12; rotate_left 10; (focus (first | kernel_rfl! | rfl)); rotate_right 10; (focus (k_asm)); (focus (k_asm)); (focus (k_asm)); (focus (k_is)); (focus (boot_by_name)); (focus (decide)); rotate_left 1; (focus (rfl)); rotate_right 1; rotate_left 1; (focus (rfl)); rotate_right 1; rotate_left 1; (focus (rfl)); rotate_right 1; rotate_left 1; (focus (decide)); rotate_right 1))) ) | ((fail_if_success (with_reducible show wpAny _ _ (eval (Expr.Name _ _) (compEnvC _ _ _ _)) _ _ _)); k_dflt (first | (name_kind "local"; refine' nameX_L ?_ ?_ ?_ ?_ ?_; rotate_right 5; rotate_left 4; (focus (first | kernel_rfl! | rfl)); rotate_right 4; rotate_left 3; (focus (rfl)); rotate_right 3; (focus (k_asm)); (focus (rfl)); k_whole) | (name_kind "globalImplicit"; first | (refine' nameX_K ?_ ?_ ?_ ?_ ?_ ?_ ?_; rotate_right 7; rotate_left 6; (focus (first | kernel_rfl! | rfl)); rotate_right 6; (focus (k_asm)); (focus (k_asm)); (focus (k_asm)); rotate_left 2; (focus (rfl)); rotate_right 2; (focus (k_is)); k_whole) | (refine' nameX_B ?_ ?_ ?_ ?_ ?_ ?_ ?_ ?_ ?_; rotate_right 9; rotate_left 8; (focus (first | kernel_rfl! | rfl)); rotate_right 8; (focus (k_asm)); (focus (k_asm)); (focus (k_asm)); rotate_left 4; (focus (rfl)); rotate_right 4; (focus (k_is)); (focus (boot_fast)); (focus (decide)); k_whole)) | (name_kind "cell"; refine' nameX_C ?_ ?_ ?_ ?_ ?_ ?_ ?_; rotate_right 7; rotate_left 6; (focus (first | kernel_rfl! | rfl)); rotate_right 6; rotate_left 5; (focus (rfl)); rotate_right 5; (focus (k_asm)); (focus (rfl)); (focus (k_mem)); (focus (k_asm)); k_whole))))))
  k_with "fold" => ((fail_if_success (fail_if_success k_fold)); (refine (let qk := _; let ek := _; (?_ : wpAny _ _ _ qk ek _))))
  k_with "isTrue BoolOp" => (k_here; k_extra "fold")
  k_with "isTrue Compare" => (k_here; k_extra "fold")
  k_with "isTrue UnaryOp" => (k_here; k_extra "fold")
  k_with "eval Call" => (k_here; k_extra "fold")
  k_with "eval Compare" => (k_here; k_extra "fold")
  k_with "eval BinOp" => (k_here; k_extra "fold")
  k_with "eval Tuple" => (k_here; k_extra "fold")
  k_with "eval List" => (k_here; k_extra "fold")
  trivial
example : True := by
  k_with "eval ListComp" => ((k_here; k_dflt (refine ListComp_M (by k_asm) (by with_unfolding_all rfl) (by decide) (by rfl) (by decide) (by rfl) ?_)))
  trivial
example : True := by
  k_with "MySrc" => ((k_here; k_dflt (refine MySrc.tup (by rfl) (by k_asm) (by k_asm) (by k_mem) (by first | size_fits | exact Nat.le_of_ble_eq_true rfl) ?_; intro g'; lcg_lit)))
  trivial
example : True := by
  k_with "lcg_src" => (exact ⟨_, by k_mem, rfl, _, rfl⟩)
  trivial
example : True := by
  k_with "CompRest" => ((with_unfolding_all first | (refine LCg.CompRest.succ ?_; intro v' I' oI' C' oC' D' m' h' tk' E' hv' hC' hx' F' N' off' ne'; (first | lcg_open hv' | (obtain ⟨t9', hv9'⟩ := hv'; subst hv9')); replace ne' := apart3 ne') | refine LCg.CompRest.zero ?_))
  trivial
example : True := by
  k_with "CompEnd" => ((first | refine LCg.CompEnd.intro (by assumption) (by assumption) _ (fun p hp => hp) (by assumption) (by lcg_src) ?_ | refine LCg.CompEnd.intro (by assumption) (by assumption) _ (fun p hp => List.mem_cons_of_mem _ hp) (by assumption) (by lcg_src) ?_ | refine LCg.CompEnd.intro (by assumption) (by assumption) _ (fun p hp => List.mem_cons_of_mem _ (List.mem_cons_of_mem _ hp)) (by assumption) (by lcg_src) ?_))
  trivial
example : True := by
  k_with "FinE" => (((unfold LCg.FinE); intro D' h' tk' F' N' o1'; (try simp only [List.nil_append, List.cons_append] at N'); (try dsimp only)))
  trivial
example : True := by
  k_with "k_ne" => ((refine neN ?_; first | assumption | exact Ne.symm (by assumption) | exact Apart3.ic (by assumption) | exact Apart3.id (by assumption) | exact Apart3.cd (by assumption) | exact off3_i (by assumption) (by k_mem) | exact off3_c (by assumption) (by k_mem) | exact off3_d (by assumption) (by k_mem) | exact off1_d (by assumption) (by k_mem) | exact Ne.symm (off3_i (by assumption) (by k_mem)) | exact Ne.symm (off3_c (by assumption) (by k_mem)) | exact Ne.symm (off3_d (by assumption) (by k_mem)) | exact Ne.symm (off1_d (by assumption) (by k_mem))))
  trivial
example : True := by
  k_with "subscriptTail Name Slice ref ref" => ((k_here; (with_reducible show wpAny _ _ (subscriptTail _ (PySem.Expr.Slice none _ none _) (Value.ref _) (Value.ref _)) _ _ _); k_dflt (refine' slice3 ?_ ?_ ?_ ?_ ?_ ?_; rotate_right 6; (focus (k_asm)); (focus (k_asm)); (focus (exact News.isTup (by k_asm) (by k_mem))); rotate_left 1; (focus (with_unfolding_all rfl)); rotate_right 1; rotate_left 1; (focus (first | kmk_pure | (intro _; with_unfolding_all rfl))); rotate_right 1); intro D' h' F' N' l1; (try k_lt l1)))
  trivial
example : True := by
  k_with "binaryOp FloorDiv int int" => ((refine floordiv_int (two_ne (by assumption)) ?_ (Or.inl (PyProof.noPylong_small (by omega)))))
  trivial
set_option maxHeartbeats 4000000 in
theorem shade_is (r g b al : Int) (tr tg tb t1 : Tok) (x : Addr) (news : List (Addr × Obj)) (hx : (x, tupO [.int r tr, .int g tg, .int b tb, .int al t1]) ∈ news) (hr : 0 ≤ r ∧ r < 256) (hg : 0 ≤ g ∧ g < 256) (hb : 0 ≤ b ∧ b < 256) (ha : 0 ≤ al ∧ al < 256) :
    CallOf w mean mg mb 190 [.ref x] 2 news (fun h₀ L m s Q => Ret3 h₀ L m news s Q (unmul r al) (unmul g al) (unmul b al)) := by
  dsimp only [CallOf]
  intro dp un gd cn cs a9 ccd cl outer A₀ base h₀ L m s Q E B F X N T hk hd9 hu9 hret
  suffices hz : (laid.heap_1 = laid.heap_1 → PySem.Challenge.rw_nu0021_01 = PySem.Challenge.rw_nu0021_01 → _) from hz rfl rfl
  k_fill
  intro _ _
  refine wpAny_call ?_
  k_dflt (refine' code_defC ?k1 ?k2 ?k3 ?k4 ?k5 ?kA ?kF ?kK ?k6 ?k7 ?k8 ?k9 ?kB ?kD ?_ ?c2 ?c3 ?c4; (case kA => exact rfl); (case kF => exact rfl); (case kK => assumption); (case k1 => k_asm); (case k2 => k_asm); (case k3 => k_asm); (case k4 => k_asm); (case k5 => k_asm); (case k6 => k_is); (case k7 => k_is); (case k8 => ktr_room); (case k9 => exact BindsTo.of_eq rfl); (case kB => exact rfl); (case kD => decide +kernel); (case c2 => exact rfl); (case c3 => exact rfl); (case c4 => exact rfl); k_whole; intro g' L' h' tk' cells' FG' F' N' Y' B' X' T' l1; (try k_lt l1); k_cells Y'; (try simp only [List.cons_append, List.nil_append] at N'); (try dsimp only); (try k_lift B'); (try k_fold))
  k_steps
  · have e : ∀ n, unmul n al = 0 := fun n => by unfold unmul; exact if_pos (by assumption)
    rw [e, e, e] at hret
    refine' hret _ _ _ _ _ _ ?f ?n ?o
    case f => assumption
    case n => exact cb_drop (by assumption) (List.forall_mem_cons.mpr ⟨List.Mem.head _, fun p hp => by repeat (first | exact hp | refine List.mem_cons_of_mem _ ?_)⟩)
    case o => (first | exact lts_of (by assumption) (fun p hp => by repeat (first | exact hp | refine List.mem_cons_of_mem _ ?_)) | (intro p9 hp9; (repeat' (first | (with_reducible rename (∀ p : Addr × Obj, p ∈ (_ : List (Addr × Obj)) → @LT.lt Nat _ p.1 _) => hq9; first | replace hq9 := ltN (hq9 p9 hp9) | clear hq9) | (with_reducible rename AllLt _ _ => hq9; first | replace hq9 := ltN (ktn_ltOf hq9 p9 hp9) | clear hq9) | (with_reducible rename (_ ∧ AllLt _ _) => hq9; obtain ⟨hz9, hq9⟩ := hq9) | (with_reducible rename (_ ∧ _ ∧ AllLt _ _) => hq9; obtain ⟨hz9, hq9⟩ := hq9) | (with_reducible rename (_ ∧ _ ∧ _ ∧ AllLt _ _) => hq9; obtain ⟨hz9, hq9⟩ := hq9) | (with_reducible rename (_ ∧ _ ∧ _ ∧ _ ∧ AllLt _ _) => hq9; obtain ⟨hz9, hq9⟩ := hq9) | (with_reducible rename (_ ∧ _ ∧ _ ∧ _ ∧ _ ∧ AllLt _ _) => hq9; obtain ⟨hz9, hq9⟩ := hq9) | (with_reducible rename (_ ∧ _ ∧ _ ∧ _ ∧ _ ∧ _ ∧ AllLt _ _) => hq9; obtain ⟨hz9, hq9⟩ := hq9) | (with_reducible rename (_ ∧ _ ∧ _ ∧ _ ∧ _ ∧ _ ∧ _ ∧ AllLt _ _) => hq9; obtain ⟨hz9, hq9⟩ := hq9) | (with_reducible rename (_ ∧ _ ∧ _ ∧ _ ∧ _ ∧ _ ∧ _ ∧ _ ∧ AllLt _ _) => hq9; obtain ⟨hz9, hq9⟩ := hq9))); first | assumption | (refine ltN ?_; omega)))
  · have hal : ¬ al = 0 := by assumption
    have e : ∀ n, unmul n al = (2 * n * 255 + al).fdiv (2 * al) := fun n => by
      unfold unmul
      rw [if_neg hal, fd _ _ (by omega)]
    rw [e, e, e] at hret
    refine' hret _ _ _ _ _ _ ?f ?n ?o
    case f => assumption
    case n => exact cb_drop (by assumption) (List.forall_mem_cons.mpr ⟨List.Mem.head _, fun p hp => by repeat (first | exact hp | refine List.mem_cons_of_mem _ ?_)⟩)
    case o => (first | exact lts_of (by assumption) (fun p hp => by repeat (first | exact hp | refine List.mem_cons_of_mem _ ?_)) | (intro p9 hp9; (repeat' (first | (with_reducible rename (∀ p : Addr × Obj, p ∈ (_ : List (Addr × Obj)) → @LT.lt Nat _ p.1 _) => hq9; first | replace hq9 := ltN (hq9 p9 hp9) | clear hq9) | (with_reducible rename AllLt _ _ => hq9; first | replace hq9 := ltN (ktn_ltOf hq9 p9 hp9) | clear hq9) | (with_reducible rename (_ ∧ AllLt _ _) => hq9; obtain ⟨hz9, hq9⟩ := hq9) | (with_reducible rename (_ ∧ _ ∧ AllLt _ _) => hq9; obtain ⟨hz9, hq9⟩ := hq9) | (with_reducible rename (_ ∧ _ ∧ _ ∧ AllLt _ _) => hq9; obtain ⟨hz9, hq9⟩ := hq9) | (with_reducible rename (_ ∧ _ ∧ _ ∧ _ ∧ AllLt _ _) => hq9; obtain ⟨hz9, hq9⟩ := hq9) | (with_reducible rename (_ ∧ _ ∧ _ ∧ _ ∧ _ ∧ AllLt _ _) => hq9; obtain ⟨hz9, hq9⟩ := hq9) | (with_reducible rename (_ ∧ _ ∧ _ ∧ _ ∧ _ ∧ _ ∧ AllLt _ _) => hq9; obtain ⟨hz9, hq9⟩ := hq9) | (with_reducible rename (_ ∧ _ ∧ _ ∧ _ ∧ _ ∧ _ ∧ _ ∧ AllLt _ _) => hq9; obtain ⟨hz9, hq9⟩ := hq9) | (with_reducible rename (_ ∧ _ ∧ _ ∧ _ ∧ _ ∧ _ ∧ _ ∧ _ ∧ AllLt _ _) => hq9; obtain ⟨hz9, hq9⟩ := hq9))); first | assumption | (refine ltN ?_; omega)))
end

section
example : True := by
  k_with_none
  k_with "k_all" => (first | assumption | (intro p9 hp9; (repeat' (first | (with_reducible rename (∀ p : Addr × Obj, p ∈ (_ : List (Addr × Obj)) → @LT.lt Nat _ p.1 _) => hq9; first | replace hq9 := ltN (hq9 p9 hp9) | clear hq9) | (with_reducible rename AllLt _ _ => hq9; first | replace hq9 := ltN (ktn_ltOf hq9 p9 hp9) | clear hq9) | (with_reducible rename (_ ∧ AllLt _ _) => hq9; obtain ⟨hz9, hq9⟩ := hq9))); (refine neN ?_); omega))
  k_with "k_ne" => ((refine neN ?_; (try dsimp only); first | with_reducible assumption | exact Ne.symm (by with_reducible assumption) | exact ne_above (by with_reducible assumption) (by k_mem) | exact Ne.symm (ne_above (by with_reducible assumption) (by k_mem)) | exact ne_above1 (by with_reducible assumption) (by k_mem) | exact Ne.symm (ne_above1 (by with_reducible assumption) (by k_mem))))
  k_with "room" => (first | exact room_at (by with_reducible assumption) rfl rfl | exact room_at0 (by with_reducible assumption) rfl | exact room_at1 (by with_reducible assumption) rfl rfl)
  k_with "units" => (exact units_at (by with_reducible assumption) rfl rfl)
  k_with "x.p" => (refine' Prem.mk ?_ ?_ ?_ ?_ ?_ ?_ ?_ ?_; rotate_right 8; (focus k_asm); (focus k_asm); (focus k_asm); (focus (k_asm)); (focus k_asm); (focus (first | exact rfl | assumption)); (focus ktr_room); (focus ktr_units))
  k_with "x.pn" => (refine' Prem.mk ?_ ?_ ?_ ?_ ?_ ?_ ?_ ?_; rotate_right 8; (focus k_asm); (focus k_asm); (focus k_asm); (focus (first | k_asm | exact news_rot1 (by k_asm) | exact news_rot2 (by k_asm))); (focus k_asm); (focus (first | exact rfl | assumption)); (focus ktr_room); (focus ktr_units))
  k_with "x.pr" => (refine' Prem.mk ?_ ?_ ?_ ?_ ?_ ?_ ?_ ?_; rotate_right 8; (focus k_asm); (focus k_asm); (focus k_asm); (focus (first | k_asm | exact rot1 (by k_asm) | exact rot2 (by k_asm) | exact rot3 (by k_asm))); (focus k_asm); (focus (first | exact rfl | assumption)); (focus ktr_room); (focus ktr_units))
  k_with "x.t" => (intro t9 h9 tk9 F9 N9; (try dsimp only); (try k_fold))
  k_with "x.2" => (intro x9 t91 t92 h9 tk9 F9 N9 l9; (try k_lt l9); (try dsimp only); (try k_fold))
  k_with "x.3" => (intro x9 t91 t92 t93 h9 tk9 F9 N9 l9; (try k_lt l9); (try dsimp only); (try k_fold))
  k_with "x.4" => (intro x9 t91 t92 t93 t94 h9 tk9 F9 N9 l9; (try k_lt l9); (try dsimp only); (try k_fold))
  k_with "x.tt" => (intro t9 t91 h9 tk9 F9 N9; (try dsimp only); (try k_fold))
  k_with "x.take" => (intro d9 a9 b9 t9 t91 t92 n9 h9 tk9 hd0 hd1 ha9 hb9 hb99 F9 N9; (have hb9' := And.intro hb9 hb99); (try dsimp only); (try k_fold))
  k_with "x.r" => (intro e9 t9 ws9 h9 tk9 G9 FG9 R9 U9; (try dsimp only); (try k_fold))
  k_with "x.c" => (intro h9 tk9 g9 T9 F9 N9 B9 X9 P9 D9; (try dsimp only); (try k_fold))
  k_with "eval Name" => ((k_here; (first | ((with_reducible show wpAny _ _ (eval (Expr.Name _ _) (compEnvC _ _ _ _)) _ _ _); k_dflt (first | (name_kind "local"; refine' LCgL.ld_own ?_ ?_ ?_ ?_ ?_ ?_ ?_ ?_; rotate_right 8; rotate_left 6; (focus (first | kernel_rfl! | rfl)); rotate_right 6; rotate_left 5; (focus (rfl)); rotate_right 5; rotate_left 5; (focus (decide)); rotate_right 5; (focus (k_asm)); (focus (k_mem)); (focus (assumption)); (focus (assumption))) | (name_kind "globalImplicit"; first | (refine' LCgL.ld_global ?_ ?_ ?_ ?_ ?_ ?_ ?_ ?_ ?_; rotate_right 9; rotate_left 7; (focus (first | kernel_rfl! | rfl)); rotate_right 7; (focus (k_asm)); (focus (k_asm)); (focus (k_asm)); (focus (k_is)); rotate_left 1; (focus (rfl)); rotate_right 1; rotate_left 1; (focus (rfl)); rotate_right 1; rotate_left 1; (focus (decide)); rotate_right 1) | (refine' LCgL.ld_built ?_ ?_ ?_ ?_ ?_ ?_ ?_ ?_ ?_ ?_ ?_ ?_; rotate_right 12; rotate_left 10; (focus (first | kernel_rfl! | rfl)); rotate_right 10; (focus (k_asm)); (focus (k_asm)); (focus (k_asm)); (focus (k_is)); (focus (boot_by_name)); (focus (decide)); rotate_left 1; (focus (rfl)); rotate_right 1; rotate_left 1; (focus (rfl)); rotate_right 1; rotate_left 1; (focus (rfl)); rotate_right 1; rotate_left 1; (focus (decide)); rotate_right 1))) ) | ((fail_if_success (with_reducible show wpAny _ _ (eval (Expr.Name _ _) (compEnvC _ _ _ _)) _ _ _)); k_dflt (first | (name_kind "local"; refine' nameX_L ?_ ?_ ?_ ?_ ?_; rotate_right 5; rotate_left 4; (focus (first | kernel_rfl! | rfl)); rotate_right 4; rotate_left 3; (focus (rfl)); rotate_right 3; (focus (k_asm)); (focus (rfl)); k_whole) | (name_kind "globalImplicit"; first | (refine' nameX_K ?_ ?_ ?_ ?_ ?_ ?_ ?_; rotate_right 7; rotate_left 6; (focus (first | kernel_rfl! | rfl)); rotate_right 6; (focus (k_asm)); (focus (k_asm)); (focus (k_asm)); rotate_left 2; (focus (rfl)); rotate_right 2; (focus (k_is)); k_whole) | (refine' nameX_B ?_ ?_ ?_ ?_ ?_ ?_ ?_ ?_ ?_; rotate_right 9; rotate_left 8; (focus (first | kernel_rfl! | rfl)); rotate_right 8; (focus (k_asm)); (focus (k_asm)); (focus (k_asm)); rotate_left 4; (focus (rfl)); rotate_right 4; (focus (k_is)); (focus (boot_fast)); (focus (decide)); k_whole)) | (name_kind "cell"; refine' nameX_C ?_ ?_ ?_ ?_ ?_ ?_ ?_; rotate_right 7; rotate_left 6; (focus (first | kernel_rfl! | rfl)); rotate_right 6; rotate_left 5; (focus (rfl)); rotate_right 5; (focus (k_asm)); (focus (rfl)); (focus (k_mem)); (focus (k_asm)); k_whole))))))
  k_with "fold" => ((fail_if_success (fail_if_success k_fold)); (refine (let qk := _; let ek := _; (?_ : wpAny _ _ _ qk ek _))))
  k_with "isTrue BoolOp" => (k_here; k_extra "fold")
  k_with "isTrue Compare" => (k_here; k_extra "fold")
  k_with "isTrue UnaryOp" => (k_here; k_extra "fold")
  k_with "eval Call" => (k_here; k_extra "fold")
  k_with "eval Compare" => (k_here; k_extra "fold")
  k_with "eval BinOp" => (k_here; k_extra "fold")
  k_with "eval Tuple" => (k_here; k_extra "fold")
  k_with "eval List" => (k_here; k_extra "fold")
  trivial
set_option maxHeartbeats 4000000 in
theorem cut_is (n : Int) (t1 : Tok) (news : List (Addr × Obj)) :
    CallOf w mean mg mb 266 [.int n t1] 1 news (fun h₀ L m s Q => CbRet h₀ L m news s Q fun t => .int (min (max n 0) 255) t) := by
  dsimp only [CallOf]
  intro dp un gd cn cs a9 ccd cl outer A₀ base h₀ L m s Q E B F X N T hk hd9 hu9 hret
  suffices hz : (laid.heap_1 = laid.heap_1 → PySem.Challenge.rw_nu0021_01 = PySem.Challenge.rw_nu0021_01 → _) from hz rfl rfl
  k_fill
  intro _ _
  refine wpAny_call ?_
  k_dflt (refine' code_def ?k1 ?k2 ?k3 ?k4 ?k5 ?kA ?kF ?kK ?k6 ?k7 ?k8 ?k9 ?kB ?_ ?c2 ?c3 ?c4 ?c5; (case kA => exact rfl); (case kF => exact rfl); (case kK => assumption); (case k1 => k_asm); (case k2 => k_asm); (case k3 => k_asm); (case k4 => k_asm); (case k5 => k_asm); (case k6 => k_is); (case k7 => k_is); (case k8 => ktr_room); (case k9 => first | exact BindsTo.of_eq rfl | exact binds_K (by k_in) rfl (by k_is) rfl rfl rfl); (case c5 => decide); (case kB => exact locs rfl); (case c2 => exact rfl); (case c3 => exact rfl); (case c4 => exact rfl); k_whole; intro g' L' h' FG' F' N' B' X' T'; (try dsimp only); (try k_lift B'); (try k_fold))
  k_steps
  refine cb_retI hret ?_ (by assumption) (by assumption)
  split <;> split at * <;> omega
set_option maxHeartbeats 4000000 in
theorem lawdigits_is (n : Int) (t1 : Tok) (hx : 0 ≤ n ∧ n < 256) (news : List (Addr × Obj)) :
    CallOf w mean mg mb 259 [.int n t1] 1 news (fun h₀ L m s Q => CbRet h₀ L m news s Q fun t => .str (Str.mk #[upDigit (n / 16), loDigit (n % 16)]) t) := by
  dsimp only [CallOf]
  intro dp un gd cn cs a9 ccd cl outer A₀ base h₀ L m s Q E B F X N T hk hd9 hu9 hret
  suffices hz : (laid.heap_1 = laid.heap_1 → PySem.Challenge.rw_nu0021_01 = PySem.Challenge.rw_nu0021_01 → _) from hz rfl rfl
  k_fill
  intro _ _
  refine wpAny_call ?_
  k_dflt (refine' code_def ?k1 ?k2 ?k3 ?k4 ?k5 ?kA ?kF ?kK ?k6 ?k7 ?k8 ?k9 ?kB ?_ ?c2 ?c3 ?c4 ?c5; (case kA => exact rfl); (case kF => exact rfl); (case kK => assumption); (case k1 => k_asm); (case k2 => k_asm); (case k3 => k_asm); (case k4 => k_asm); (case k5 => k_asm); (case k6 => k_is); (case k7 => k_is); (case k8 => ktr_room); (case k9 => first | exact BindsTo.of_eq rfl | exact binds_K (by k_in) rfl (by k_is) rfl rfl rfl); (case c5 => decide); (case kB => exact locs rfl); (case c2 => exact rfl); (case c3 => exact rfl); (case c4 => exact rfl); k_whole; intro g' L' h' FG' F' N' B' X' T'; (try dsimp only); (try k_lift B'); (try k_fold))
  k_steps
  refine cb_retS hret ?_ (by assumption) (by assumption)
  rw [fd _ _ (by decide), fm _ _ (by decide)]
  obtain ⟨k, rfl⟩ := Int.eq_ofNat_of_zero_le hx.1
  have hk : k < 256 := by omega
  revert hk
  intro hk
  have h1 : k / 16 < 16 := by omega
  have h2 : k % 16 < 16 := by omega
  have e1 : ((k : Int) / 16) = ((k / 16 : Nat) : Int) := by omega
  have e2 : ((k : Int) % 16) = ((k % 16 : Nat) : Int) := by omega
  rw [e1, e2]
  generalize k / 16 = i at h1
  generalize k % 16 = j at h2
  have hi : ∀ i : Fin 16, Txt.item (Str.ofString "0123456789ABCDEF") ((i : Nat) : Int) = ⟨#[upDigit ((i : Nat) : Int)]⟩ := by decide +kernel
  have hj : ∀ i : Fin 16, Txt.item (Str.ofString "0123456789abcdef") ((i : Nat) : Int) = ⟨#[loDigit ((i : Nat) : Int)]⟩ := by decide +kernel
  have q1 := hi ⟨i, h1⟩
  have q2 := hj ⟨j, h2⟩
  dsimp only at q1 q2
  rw [q1, q2]; rfl
end

section
example : True := by
  k_with_none
  k_with "k_all" => (first | assumption | (intro p9 hp9; (repeat' (first | (with_reducible rename (∀ p : Addr × Obj, p ∈ (_ : List (Addr × Obj)) → @LT.lt Nat _ p.1 _) => hq9; first | replace hq9 := ltN (hq9 p9 hp9) | clear hq9) | (with_reducible rename AllLt _ _ => hq9; first | replace hq9 := ltN (ktn_ltOf hq9 p9 hp9) | clear hq9) | (with_reducible rename (_ ∧ AllLt _ _) => hq9; obtain ⟨hz9, hq9⟩ := hq9))); (refine neN ?_); omega))
  k_with "k_ne" => ((refine neN ?_; (try dsimp only); first | with_reducible assumption | exact Ne.symm (by with_reducible assumption) | exact ne_above (by with_reducible assumption) (by k_mem) | exact Ne.symm (ne_above (by with_reducible assumption) (by k_mem)) | exact ne_above1 (by with_reducible assumption) (by k_mem) | exact Ne.symm (ne_above1 (by with_reducible assumption) (by k_mem))))
  k_with "room" => (first | exact room_at (by with_reducible assumption) rfl rfl | exact room_at0 (by with_reducible assumption) rfl | exact room_at1 (by with_reducible assumption) rfl rfl)
  k_with "units" => (exact units_at (by with_reducible assumption) rfl rfl)
  k_with "x.p" => (refine' Prem.mk ?_ ?_ ?_ ?_ ?_ ?_ ?_ ?_; rotate_right 8; (focus k_asm); (focus k_asm); (focus k_asm); (focus (k_asm)); (focus k_asm); (focus (first | exact rfl | assumption)); (focus ktr_room); (focus ktr_units))
  k_with "x.pn" => (refine' Prem.mk ?_ ?_ ?_ ?_ ?_ ?_ ?_ ?_; rotate_right 8; (focus k_asm); (focus k_asm); (focus k_asm); (focus (first | k_asm | exact news_rot1 (by k_asm) | exact news_rot2 (by k_asm))); (focus k_asm); (focus (first | exact rfl | assumption)); (focus ktr_room); (focus ktr_units))
  k_with "x.pr" => (refine' Prem.mk ?_ ?_ ?_ ?_ ?_ ?_ ?_ ?_; rotate_right 8; (focus k_asm); (focus k_asm); (focus k_asm); (focus (first | k_asm | exact rot1 (by k_asm) | exact rot2 (by k_asm) | exact rot3 (by k_asm))); (focus k_asm); (focus (first | exact rfl | assumption)); (focus ktr_room); (focus ktr_units))
  k_with "x.t" => (intro t9 h9 tk9 F9 N9; (try dsimp only); (try k_fold))
  k_with "x.2" => (intro x9 t91 t92 h9 tk9 F9 N9 l9; (try k_lt l9); (try dsimp only); (try k_fold))
  k_with "x.3" => (intro x9 t91 t92 t93 h9 tk9 F9 N9 l9; (try k_lt l9); (try dsimp only); (try k_fold))
  k_with "x.4" => (intro x9 t91 t92 t93 t94 h9 tk9 F9 N9 l9; (try k_lt l9); (try dsimp only); (try k_fold))
  k_with "x.tt" => (intro t9 t91 h9 tk9 F9 N9; (try dsimp only); (try k_fold))
  k_with "x.take" => (intro d9 a9 b9 t9 t91 t92 n9 h9 tk9 hd0 hd1 ha9 hb9 hb99 F9 N9; (have hb9' := And.intro hb9 hb99); (try dsimp only); (try k_fold))
  k_with "x.r" => (intro e9 t9 ws9 h9 tk9 G9 FG9 R9 U9; (try dsimp only); (try k_fold))
  k_with "x.c" => (intro h9 tk9 g9 T9 F9 N9 B9 X9 P9 D9; (try dsimp only); (try k_fold))
  k_with "eval Name" => ((k_here; (first | ((with_reducible show wpAny _ _ (eval (Expr.Name _ _) (compEnvC _ _ _ _)) _ _ _); k_dflt (first | (name_kind "local"; refine' LCgL.ld_own ?_ ?_ ?_ ?_ ?_ ?_ ?_ ?_; rotate_right 8; rotate_left 6; (focus (first | kernel_rfl! | rfl)); rotate_right 6; rotate_left 5; (focus (rfl)); rotate_right 5; rotate_left 5; (focus (decide)); rotate_right 5; (focus (k_asm)); (focus (k_mem)); (focus (assumption)); (focus (assumption))) | (name_kind "globalImplicit"; first | (refine' LCgL.ld_global ?_ ?_ ?_ ?_ ?_ ?_ ?_ ?_ ?_; rotate_right 9; rotate_left 7; (focus (first | kernel_rfl! | rfl)); rotate_right 7; (focus (k_asm)); (focus (k_asm)); (focus (k_asm)); (focus (k_is)); rotate_left 1; (focus (rfl)); rotate_right 1; rotate_left 1; (focus (rfl)); rotate_right 1; rotate_left 1; (focus (decide)); rotate_right 1) | (refine' LCgL.ld_built ?_ ?_ ?_ ?_ ?_ ?_ ?_ ?_ ?_ ?_ ?_ ?_; rotate_right 12; rotate_left 10; (focus (first | kernel_rfl! | rfl)); rotate_right 10; (focus (k_asm)); (focus (k_asm)); (focus (k_asm)); (focus (k_is)); (focus (boot_by_name)); (focus (decide)); rotate_left 1; (focus (rfl)); rotate_right 1; rotate_left 1; (focus (rfl)); rotate_right 1; rotate_left 1; (focus (rfl)); rotate_right 1; rotate_left 1; (focus (decide)); rotate_right 1))) ) | ((fail_if_success (with_reducible show wpAny _ _ (eval (Expr.Name _ _) (compEnvC _ _ _ _)) _ _ _)); k_dflt (first | (name_kind "local"; refine' nameX_L ?_ ?_ ?_ ?_ ?_; rotate_right 5; rotate_left 4; (focus (first | kernel_rfl! | rfl)); rotate_right 4; rotate_left 3; (focus (rfl)); rotate_right 3; (focus (k_asm)); (focus (rfl)); k_whole) | (name_kind "globalImplicit"; first | (refine' nameX_K ?_ ?_ ?_ ?_ ?_ ?_ ?_; rotate_right 7; rotate_left 6; (focus (first | kernel_rfl! | rfl)); rotate_right 6; (focus (k_asm)); (focus (k_asm)); (focus (k_asm)); rotate_left 2; (focus (rfl)); rotate_right 2; (focus (k_is)); k_whole) | (refine' nameX_B ?_ ?_ ?_ ?_ ?_ ?_ ?_ ?_ ?_; rotate_right 9; rotate_left 8; (focus (first | kernel_rfl! | rfl)); rotate_right 8; (focus (k_asm)); (focus (k_asm)); (focus (k_asm)); rotate_left 4; (focus (rfl)); rotate_right 4; (focus (k_is)); (focus (boot_fast)); (focus (decide)); k_whole)) | (name_kind "cell"; refine' nameX_C ?_ ?_ ?_ ?_ ?_ ?_ ?_; rotate_right 7; rotate_left 6; (focus (first | kernel_rfl! | rfl)); rotate_right 6; rotate_left 5; (focus (rfl)); rotate_right 5; (focus (k_asm)); (focus (rfl)); (focus (k_mem)); (focus (k_asm)); k_whole))))))
  k_with "fold" => ((fail_if_success (fail_if_success k_fold)); (refine (let qk := _; let ek := _; (?_ : wpAny _ _ _ qk ek _))))
  k_with "isTrue BoolOp" => (k_here; k_extra "fold")
  k_with "isTrue Compare" => (k_here; k_extra "fold")
  k_with "isTrue UnaryOp" => (k_here; k_extra "fold")
  k_with "eval Call" => (k_here; k_extra "fold")
  k_with "eval Compare" => (k_here; k_extra "fold")
  k_with "eval BinOp" => (k_here; k_extra "fold")
  k_with "eval Tuple" => (k_here; k_extra "fold")
  k_with "eval List" => (k_here; k_extra "fold")
  trivial
set_option maxHeartbeats 4000000 in
theorem weighted_is (n al : Int) (t1 t2 : Tok) (hn : 0 ≤ n ∧ n ≤ 255) (ha : 0 ≤ al ∧ al ≤ 255) (news : List (Addr × Obj)) :
    CallOf w mean mg mb 178 [.int n t1, .int al t2] 1 news (fun h₀ L m s Q => CbRet h₀ L m news s Q fun t => .int (mul8 n al) t) := by
  dsimp only [CallOf]
  intro dp un gd cn cs a9 ccd cl outer A₀ base h₀ L m s Q E B F X N T hk hd9 hu9 hret
  suffices hz : (laid.heap_1 = laid.heap_1 → PySem.Challenge.rw_nu0021_01 = PySem.Challenge.rw_nu0021_01 → _) from hz rfl rfl
  k_fill
  intro _ _
  refine wpAny_call ?_
  k_dflt (refine' code_def ?k1 ?k2 ?k3 ?k4 ?k5 ?kA ?kF ?kK ?k6 ?k7 ?k8 ?k9 ?kB ?_ ?c2 ?c3 ?c4 ?c5; (case kA => exact rfl); (case kF => exact rfl); (case kK => assumption); (case k1 => k_asm); (case k2 => k_asm); (case k3 => k_asm); (case k4 => k_asm); (case k5 => k_asm); (case k6 => k_is); (case k7 => k_is); (case k8 => ktr_room); (case k9 => first | exact BindsTo.of_eq rfl | exact binds_K (by k_in) rfl (by k_is) rfl rfl rfl); (case c5 => decide); (case kB => exact locs rfl); (case c2 => exact rfl); (case c3 => exact rfl); (case c4 => exact rfl); k_whole; intro g' L' h' FG' F' N' B' X' T'; (try dsimp only); (try k_lift B'); (try k_fold))
  k_steps
  refine cb_retI hret ?_ (by assumption) (by assumption)
  rw [fd _ _ (by decide)]; rfl
example : True := by
  k_with "call ref" => ((k_here; k_dflt (refine' callBy (weighted_is _ _ _ _ ?_ ?_ _) ?_ ?_; rotate_right 2; (focus (walk_at "x.p")); (all_goals skip); rotate_right 2; (focus (omega)); (focus (omega)); walk_at "x.t")))
  trivial
set_option maxHeartbeats 4000000 in
theorem premul_is (r g b al : Int) (tr tg tb t1 : Tok) (x : Addr) (news : List (Addr × Obj)) (hx : (x, tupO [.int r tr, .int g tg, .int b tb]) ∈ news) (hr : 0 ≤ r ∧ r ≤ 255) (hg : 0 ≤ g ∧ g ≤ 255) (hb : 0 ≤ b ∧ b ≤ 255) (ha : 0 ≤ al ∧ al ≤ 255) :
    CallOf w mean mg mb 185 [.ref x, .int al t1] 2 news (fun h₀ L m s Q => Ret4 h₀ L m news s Q (mul8 r al) (mul8 g al) (mul8 b al) al) := by
  dsimp only [CallOf]
  intro dp un gd cn cs a9 ccd cl outer A₀ base h₀ L m s Q E B F X N T hk hd9 hu9 hret
  suffices hz : (laid.heap_1 = laid.heap_1 → PySem.Challenge.rw_nu0021_01 = PySem.Challenge.rw_nu0021_01 → _) from hz rfl rfl
  k_fill
  intro _ _
  refine wpAny_call ?_
  k_dflt (refine' code_def ?k1 ?k2 ?k3 ?k4 ?k5 ?kA ?kF ?kK ?k6 ?k7 ?k8 ?k9 ?kB ?_ ?c2 ?c3 ?c4 ?c5; (case kA => exact rfl); (case kF => exact rfl); (case kK => assumption); (case k1 => k_asm); (case k2 => k_asm); (case k3 => k_asm); (case k4 => k_asm); (case k5 => k_asm); (case k6 => k_is); (case k7 => k_is); (case k8 => ktr_room); (case k9 => first | exact BindsTo.of_eq rfl | exact binds_K (by k_in) rfl (by k_is) rfl rfl rfl); (case c5 => decide); (case kB => exact locs rfl); (case c2 => exact rfl); (case c3 => exact rfl); (case c4 => exact rfl); k_whole; intro g' L' h' FG' F' N' B' X' T'; (try dsimp only); (try k_lift B'); (try k_fold))
  k_steps
  refine' hret _ _ _ _ _ _ _ ?f ?n ?o
  case f => assumption
  case n => exact cb_drop (by assumption) (List.forall_mem_cons.mpr ⟨List.Mem.head _, fun p hp => by repeat (first | exact hp | refine List.mem_cons_of_mem _ ?_)⟩)
  case o => (first | exact lts_of (by assumption) (fun p hp => by repeat (first | exact hp | refine List.mem_cons_of_mem _ ?_)) | (intro p9 hp9; (repeat' (first | (with_reducible rename (∀ p : Addr × Obj, p ∈ (_ : List (Addr × Obj)) → @LT.lt Nat _ p.1 _) => hq9; first | replace hq9 := ltN (hq9 p9 hp9) | clear hq9) | (with_reducible rename AllLt _ _ => hq9; first | replace hq9 := ltN (ktn_ltOf hq9 p9 hp9) | clear hq9) | (with_reducible rename (_ ∧ AllLt _ _) => hq9; obtain ⟨hz9, hq9⟩ := hq9) | (with_reducible rename (_ ∧ _ ∧ AllLt _ _) => hq9; obtain ⟨hz9, hq9⟩ := hq9) | (with_reducible rename (_ ∧ _ ∧ _ ∧ AllLt _ _) => hq9; obtain ⟨hz9, hq9⟩ := hq9) | (with_reducible rename (_ ∧ _ ∧ _ ∧ _ ∧ AllLt _ _) => hq9; obtain ⟨hz9, hq9⟩ := hq9) | (with_reducible rename (_ ∧ _ ∧ _ ∧ _ ∧ _ ∧ AllLt _ _) => hq9; obtain ⟨hz9, hq9⟩ := hq9) | (with_reducible rename (_ ∧ _ ∧ _ ∧ _ ∧ _ ∧ _ ∧ AllLt _ _) => hq9; obtain ⟨hz9, hq9⟩ := hq9) | (with_reducible rename (_ ∧ _ ∧ _ ∧ _ ∧ _ ∧ _ ∧ _ ∧ AllLt _ _) => hq9; obtain ⟨hz9, hq9⟩ := hq9) | (with_reducible rename (_ ∧ _ ∧ _ ∧ _ ∧ _ ∧ _ ∧ _ ∧ _ ∧ AllLt _ _) => hq9; obtain ⟨hz9, hq9⟩ := hq9))); first | assumption | (refine ltN ?_; omega)))
end

section
example : True := by
  k_with_none
  k_with "k_all" => (first | assumption | (intro p9 hp9; (repeat' (first | (with_reducible rename (∀ p : Addr × Obj, p ∈ (_ : List (Addr × Obj)) → @LT.lt Nat _ p.1 _) => hq9; first | replace hq9 := ltN (hq9 p9 hp9) | clear hq9) | (with_reducible rename AllLt _ _ => hq9; first | replace hq9 := ltN (ktn_ltOf hq9 p9 hp9) | clear hq9) | (with_reducible rename (_ ∧ AllLt _ _) => hq9; obtain ⟨hz9, hq9⟩ := hq9))); (refine neN ?_); omega))
  k_with "k_ne" => ((refine neN ?_; (try dsimp only); first | with_reducible assumption | exact Ne.symm (by with_reducible assumption) | exact ne_above (by with_reducible assumption) (by k_mem) | exact Ne.symm (ne_above (by with_reducible assumption) (by k_mem)) | exact ne_above1 (by with_reducible assumption) (by k_mem) | exact Ne.symm (ne_above1 (by with_reducible assumption) (by k_mem))))
  k_with "room" => (first | exact room_at (by with_reducible assumption) rfl rfl | exact room_at0 (by with_reducible assumption) rfl | exact room_at1 (by with_reducible assumption) rfl rfl)
  k_with "units" => (exact units_at (by with_reducible assumption) rfl rfl)
  k_with "x.p" => (refine' Prem.mk ?_ ?_ ?_ ?_ ?_ ?_ ?_ ?_; rotate_right 8; (focus k_asm); (focus k_asm); (focus k_asm); (focus (k_asm)); (focus k_asm); (focus (first | exact rfl | assumption)); (focus ktr_room); (focus ktr_units))
  k_with "x.pn" => (refine' Prem.mk ?_ ?_ ?_ ?_ ?_ ?_ ?_ ?_; rotate_right 8; (focus k_asm); (focus k_asm); (focus k_asm); (focus (first | k_asm | exact news_rot1 (by k_asm) | exact news_rot2 (by k_asm))); (focus k_asm); (focus (first | exact rfl | assumption)); (focus ktr_room); (focus ktr_units))
  k_with "x.pr" => (refine' Prem.mk ?_ ?_ ?_ ?_ ?_ ?_ ?_ ?_; rotate_right 8; (focus k_asm); (focus k_asm); (focus k_asm); (focus (first | k_asm | exact rot1 (by k_asm) | exact rot2 (by k_asm) | exact rot3 (by k_asm))); (focus k_asm); (focus (first | exact rfl | assumption)); (focus ktr_room); (focus ktr_units))
  k_with "x.t" => (intro t9 h9 tk9 F9 N9; (try dsimp only); (try k_fold))
  k_with "x.2" => (intro x9 t91 t92 h9 tk9 F9 N9 l9; (try k_lt l9); (try dsimp only); (try k_fold))
  k_with "x.3" => (intro x9 t91 t92 t93 h9 tk9 F9 N9 l9; (try k_lt l9); (try dsimp only); (try k_fold))
  k_with "x.4" => (intro x9 t91 t92 t93 t94 h9 tk9 F9 N9 l9; (try k_lt l9); (try dsimp only); (try k_fold))
  k_with "x.tt" => (intro t9 t91 h9 tk9 F9 N9; (try dsimp only); (try k_fold))
  k_with "x.take" => (intro d9 a9 b9 t9 t91 t92 n9 h9 tk9 hd0 hd1 ha9 hb9 hb99 F9 N9; (have hb9' := And.intro hb9 hb99); (try dsimp only); (try k_fold))
  k_with "x.r" => (intro e9 t9 ws9 h9 tk9 G9 FG9 R9 U9; (try dsimp only); (try k_fold))
  k_with "x.c" => (intro h9 tk9 g9 T9 F9 N9 B9 X9 P9 D9; (try dsimp only); (try k_fold))
  k_with "eval Name" => ((k_here; (first | ((with_reducible show wpAny _ _ (eval (Expr.Name _ _) (compEnvC _ _ _ _)) _ _ _); k_dflt (first | (name_kind "local"; refine' LCgL.ld_own ?_ ?_ ?_ ?_ ?_ ?_ ?_ ?_; rotate_right 8; rotate_left 6; (focus (first | kernel_rfl! | rfl)); rotate_right 6; rotate_left 5; (focus (rfl)); rotate_right 5; rotate_left 5; (focus (decide)); rotate_right 5; (focus (k_asm)); (focus (k_mem)); (focus (assumption)); (focus (assumption))) | (name_kind "globalImplicit"; first | (refine' LCgL.ld_global ?_ ?_ ?_ ?_ ?_ ?_ ?_ ?_ ?_; rotate_right 9; rotate_left 7; (focus (first | kernel_rfl! | rfl)); rotate_right 7; (focus (k_asm)); (focus (k_asm)); (focus (k_asm)); (focus (k_is)); rotate_left 1; (focus (rfl)); rotate_right 1; rotate_left 1; (focus (rfl)); rotate_right 1; rotate_left 1; (focus (decide)); rotate_right 1) | (refine' LCgL.ld_built ?_ ?_ ?_ ?_ ?_ ?_ ?_ ?_ ?_ ?_ ?_ ?_; rotate_right 12; rotate_left 10; (focus (first | kernel_rfl! | rfl)); rotate_right 10; (focus (k_asm)); (focus (k_asm)); (focus (k_asm)); (focus (k_is)); (focus (boot_by_name)); (focus (decide)); rotate_left 1; (focus (rfl)); rotate_right 1; rotate_left 1; (focus (rfl)); rotate_right 1; rotate_left 1; (focus (rfl)); rotate_right 1; rotate_left 1; (focus (decide)); rotate_right 1))) ) | ((fail_if_success (with_reducible show wpAny _ _ (eval (Expr.Name _ _) (compEnvC _ _ _ _)) _ _ _)); k_dflt (first | (name_kind "local"; refine' nameX_L ?_ ?_ ?_ ?_ ?_; rotate_right 5; rotate_left 4; (focus (first | kernel_rfl! | rfl)); rotate_right 4; rotate_left 3; (focus (rfl)); rotate_right 3; (focus (k_asm)); (focus (rfl)); k_whole) | (name_kind "globalImplicit"; first | (refine' nameX_K ?_ ?_ ?_ ?_ ?_ ?_ ?_; rotate_right 7; rotate_left 6; (focus (first | kernel_rfl! | rfl)); rotate_right 6; (focus (k_asm)); (focus (k_asm)); (focus (k_asm)); rotate_left 2; (focus (rfl)); rotate_right 2; (focus (k_is)); k_whole) | (refine' nameX_B ?_ ?_ ?_ ?_ ?_ ?_ ?_ ?_ ?_; rotate_right 9; rotate_left 8; (focus (first | kernel_rfl! | rfl)); rotate_right 8; (focus (k_asm)); (focus (k_asm)); (focus (k_asm)); rotate_left 4; (focus (rfl)); rotate_right 4; (focus (k_is)); (focus (boot_fast)); (focus (decide)); k_whole)) | (name_kind "cell"; refine' nameX_C ?_ ?_ ?_ ?_ ?_ ?_ ?_; rotate_right 7; rotate_left 6; (focus (first | kernel_rfl! | rfl)); rotate_right 6; rotate_left 5; (focus (rfl)); rotate_right 5; (focus (k_asm)); (focus (rfl)); (focus (k_mem)); (focus (k_asm)); k_whole))))))
  k_with "fold" => ((fail_if_success (fail_if_success k_fold)); (refine (let qk := _; let ek := _; (?_ : wpAny _ _ _ qk ek _))))
  k_with "isTrue BoolOp" => (k_here; k_extra "fold")
  k_with "isTrue Compare" => (k_here; k_extra "fold")
  k_with "isTrue UnaryOp" => (k_here; k_extra "fold")
  k_with "eval Call" => (k_here; k_extra "fold")
  k_with "eval Compare" => (k_here; k_extra "fold")
  k_with "eval BinOp" => (k_here; k_extra "fold")
  k_with "eval Tuple" => (k_here; k_extra "fold")
  k_with "eval List" => (k_here; k_extra "fold")
  trivial
theorem lo_item {n : Int} (h : 0 ≤ n ∧ n < 16) : Txt.item (Str.ofString "0123456789abcdef") n = ⟨#[loDigit n]⟩ := by
  obtain ⟨k, rfl⟩ := Int.eq_ofNat_of_zero_le h.1
  have hk : k < 16 := by omega
  have hj : ∀ i : Fin 16, Txt.item (Str.ofString "0123456789abcdef") ((i : Nat) : Int) = ⟨#[loDigit ((i : Nat) : Int)]⟩ := by decide +kernel
  exact hj ⟨k, hk⟩
theorem lo_two {n : Int} (h : 0 ≤ n ∧ n < 256) : Txt.item (Str.ofString "0123456789abcdef") (n.fdiv 16) ++ Txt.item (Str.ofString "0123456789abcdef") (n.fmod 16) = ⟨#[loDigit (n / 16), loDigit (n % 16)]⟩ := by
  rw [fd _ _ (by decide), fm _ _ (by decide), lo_item (by omega), lo_item (by omega)]; rfl
theorem join3 (a b c d e f : Nat) : Str.ofString "#" ++ Txt.join (Str.ofString "") [⟨#[a, b]⟩, ⟨#[c, d]⟩, ⟨#[e, f]⟩] = ⟨#[35, a, b, c, d, e, f]⟩ := by
  have e1 : Str.ofString "#" = ⟨#[35]⟩ := by decide +kernel
  have e2 : Str.ofString "" = ⟨#[]⟩ := by decide +kernel
  rw [e1, e2]
  rfl
example : True := by
  k_with "eval ListComp" => ((k_here; k_dflt (refine ListComp_M (by k_asm) (by with_unfolding_all rfl) (by decide) (by rfl) (by decide) (by rfl) ?_)))
  trivial
example : True := by
  k_with "MySrc" => ((k_here; k_dflt (refine MySrc.tup (by rfl) (by k_asm) (by k_asm) (by k_mem) (by first | size_fits | exact Nat.le_of_ble_eq_true rfl) ?_; intro g'; lcg_lit)))
  trivial
example : True := by
  k_with "lcg_src" => (exact ⟨_, by k_mem, rfl, _, rfl⟩)
  trivial
example : True := by
  k_with "CompRest" => ((with_unfolding_all first | (refine LCg.CompRest.succ ?_; intro v' I' oI' C' oC' D' m' h' tk' E' hv' hC' hx' F' N' off' ne'; (first | lcg_open hv' | (obtain ⟨t9', hv9'⟩ := hv'; subst hv9')); replace ne' := apart3 ne') | refine LCg.CompRest.zero ?_))
  trivial
example : True := by
  k_with "CompEnd" => ((first | refine LCg.CompEnd.intro (by assumption) (by assumption) _ (fun p hp => hp) (by assumption) (by lcg_src) ?_ | refine LCg.CompEnd.intro (by assumption) (by assumption) _ (fun p hp => List.mem_cons_of_mem _ hp) (by assumption) (by lcg_src) ?_ | refine LCg.CompEnd.intro (by assumption) (by assumption) _ (fun p hp => List.mem_cons_of_mem _ (List.mem_cons_of_mem _ hp)) (by assumption) (by lcg_src) ?_))
  trivial
example : True := by
  k_with "FinE" => (((unfold LCg.FinE); intro D' h' tk' F' N' o1'; (try simp only [List.nil_append, List.cons_append] at N'); (try dsimp only)))
  trivial
example : True := by
  k_with "k_ne" => ((refine neN ?_; first | assumption | exact Ne.symm (by assumption) | exact Apart3.ic (by assumption) | exact Apart3.id (by assumption) | exact Apart3.cd (by assumption) | exact off3_i (by assumption) (by k_mem) | exact off3_c (by assumption) (by k_mem) | exact off3_d (by assumption) (by k_mem) | exact off1_d (by assumption) (by k_mem) | exact Ne.symm (off3_i (by assumption) (by k_mem)) | exact Ne.symm (off3_c (by assumption) (by k_mem)) | exact Ne.symm (off3_d (by assumption) (by k_mem)) | exact Ne.symm (off1_d (by assumption) (by k_mem))))
  trivial
set_option maxHeartbeats 4000000 in
theorem write_is (r g b : Int) (tr tg tb : Tok) (x : Addr) (news : List (Addr × Obj)) (hx : (x, tupO [.int r tr, .int g tg, .int b tb]) ∈ news) (hr : 0 ≤ r ∧ r < 256) (hg : 0 ≤ g ∧ g < 256) (hb : 0 ≤ b ∧ b < 256) :
    CallOf w mean mg mb 231 [.ref x] 2 news (fun h₀ L m s Q => CbRet h₀ L m news s Q fun t => .str ⟨#[35, loDigit (r / 16), loDigit (r % 16), loDigit (g / 16), loDigit (g % 16), loDigit (b / 16), loDigit (b % 16)]⟩ t) := by
  dsimp only [CallOf]
  intro dp un gd cn cs a9 ccd cl outer A₀ base h₀ L m s Q E B F X N T hk hd9 hu9 hret
  suffices hz : (laid.heap_1 = laid.heap_1 → PySem.Challenge.rw_nu0021_01 = PySem.Challenge.rw_nu0021_01 → _) from hz rfl rfl
  k_fill
  intro _ _
  refine wpAny_call ?_
  k_dflt (refine' code_def ?k1 ?k2 ?k3 ?k4 ?k5 ?kA ?kF ?kK ?k6 ?k7 ?k8 ?k9 ?kB ?_ ?c2 ?c3 ?c4 ?c5; (case kA => exact rfl); (case kF => exact rfl); (case kK => assumption); (case k1 => k_asm); (case k2 => k_asm); (case k3 => k_asm); (case k4 => k_asm); (case k5 => k_asm); (case k6 => k_is); (case k7 => k_is); (case k8 => ktr_room); (case k9 => first | exact BindsTo.of_eq rfl | exact binds_K (by k_in) rfl (by k_is) rfl rfl rfl); (case c5 => decide); (case kB => exact locs rfl); (case c2 => exact rfl); (case c3 => exact rfl); (case c4 => exact rfl); k_whole; intro g' L' h' FG' F' N' B' X' T'; (try dsimp only); (try k_lift B'); (try k_fold))
  k_steps
  refine cb_retS hret ?_ (by assumption) ?_
  · rw [lo_two hr, lo_two hg, lo_two hb]
    exact join3 _ _ _ _ _ _
  · exact cb_drop (by assumption) (fun p hp => by repeat (first | exact hp | refine List.mem_cons_of_mem _ ?_))
end

section
example : True := by
  k_with_none
  k_with "k_all" => (first | assumption | (intro p9 hp9; (repeat' (first | (with_reducible rename (∀ p : Addr × Obj, p ∈ (_ : List (Addr × Obj)) → @LT.lt Nat _ p.1 _) => hq9; first | replace hq9 := ltN (hq9 p9 hp9) | clear hq9) | (with_reducible rename AllLt _ _ => hq9; first | replace hq9 := ltN (ktn_ltOf hq9 p9 hp9) | clear hq9) | (with_reducible rename (_ ∧ AllLt _ _) => hq9; obtain ⟨hz9, hq9⟩ := hq9))); (refine neN ?_); omega))
  k_with "k_ne" => ((refine neN ?_; (try dsimp only); first | with_reducible assumption | exact Ne.symm (by with_reducible assumption) | exact ne_above (by with_reducible assumption) (by k_mem) | exact Ne.symm (ne_above (by with_reducible assumption) (by k_mem)) | exact ne_above1 (by with_reducible assumption) (by k_mem) | exact Ne.symm (ne_above1 (by with_reducible assumption) (by k_mem))))
  k_with "room" => (first | exact room_at (by with_reducible assumption) rfl rfl | exact room_at0 (by with_reducible assumption) rfl | exact room_at1 (by with_reducible assumption) rfl rfl)
  k_with "units" => (exact units_at (by with_reducible assumption) rfl rfl)
  k_with "x.p" => (refine' Prem.mk ?_ ?_ ?_ ?_ ?_ ?_ ?_ ?_; rotate_right 8; (focus k_asm); (focus k_asm); (focus k_asm); (focus (k_asm)); (focus k_asm); (focus (first | exact rfl | assumption)); (focus ktr_room); (focus ktr_units))
  k_with "x.pn" => (refine' Prem.mk ?_ ?_ ?_ ?_ ?_ ?_ ?_ ?_; rotate_right 8; (focus k_asm); (focus k_asm); (focus k_asm); (focus (first | k_asm | exact news_rot1 (by k_asm) | exact news_rot2 (by k_asm))); (focus k_asm); (focus (first | exact rfl | assumption)); (focus ktr_room); (focus ktr_units))
  k_with "x.pr" => (refine' Prem.mk ?_ ?_ ?_ ?_ ?_ ?_ ?_ ?_; rotate_right 8; (focus k_asm); (focus k_asm); (focus k_asm); (focus (first | k_asm | exact rot1 (by k_asm) | exact rot2 (by k_asm) | exact rot3 (by k_asm))); (focus k_asm); (focus (first | exact rfl | assumption)); (focus ktr_room); (focus ktr_units))
  k_with "x.t" => (intro t9 h9 tk9 F9 N9; (try dsimp only); (try k_fold))
  k_with "x.2" => (intro x9 t91 t92 h9 tk9 F9 N9 l9; (try k_lt l9); (try dsimp only); (try k_fold))
  k_with "x.3" => (intro x9 t91 t92 t93 h9 tk9 F9 N9 l9; (try k_lt l9); (try dsimp only); (try k_fold))
  k_with "x.4" => (intro x9 t91 t92 t93 t94 h9 tk9 F9 N9 l9; (try k_lt l9); (try dsimp only); (try k_fold))
  k_with "x.tt" => (intro t9 t91 h9 tk9 F9 N9; (try dsimp only); (try k_fold))
  k_with "x.take" => (intro d9 a9 b9 t9 t91 t92 n9 h9 tk9 hd0 hd1 ha9 hb9 hb99 F9 N9; (have hb9' := And.intro hb9 hb99); (try dsimp only); (try k_fold))
  k_with "x.r" => (intro e9 t9 ws9 h9 tk9 G9 FG9 R9 U9; (try dsimp only); (try k_fold))
  k_with "x.c" => (intro h9 tk9 g9 T9 F9 N9 B9 X9 P9 D9; (try dsimp only); (try k_fold))
  k_with "eval Name" => ((k_here; (first | ((with_reducible show wpAny _ _ (eval (Expr.Name _ _) (compEnvC _ _ _ _)) _ _ _); k_dflt (first | (name_kind "local"; refine' LCgL.ld_own ?_ ?_ ?_ ?_ ?_ ?_ ?_ ?_; rotate_right 8; rotate_left 6; (focus (first | kernel_rfl! | rfl)); rotate_right 6; rotate_left 5; (focus (rfl)); rotate_right 5; rotate_left 5; (focus (decide)); rotate_right 5; (focus (k_asm)); (focus (k_mem)); (focus (assumption)); (focus (assumption))) | (name_kind "globalImplicit"; first | (refine' LCgL.ld_global ?_ ?_ ?_ ?_ ?_ ?_ ?_ ?_ ?_; rotate_right 9; rotate_left 7; (focus (first | kernel_rfl! | rfl)); rotate_right 7; (focus (k_asm)); (focus (k_asm)); (focus (k_asm)); (focus (k_is)); rotate_left 1; (focus (rfl)); rotate_right 1; rotate_left 1; (focus (rfl)); rotate_right 1; rotate_left 1; (focus (decide)); rotate_right 1) | (refine' LCgL.ld_built ?_ ?_ ?_ ?_ ?_ ?_ ?_ ?_ ?_ ?_ ?_ ?_; rotate_right 12; rotate_left 10; (focus (first | kernel_rfl! | rfl)); rotate_right 10; (focus (k_asm)); (focus (k_asm)); (focus (k_asm)); (focus (k_is)); (focus (boot_by_name)); (focus (decide)); rotate_left 1; (focus (rfl)); rotate_right 1; rotate_left 1; (focus (rfl)); rotate_right 1; rotate_left 1; (focus (rfl)); rotate_right 1; rotate_left 1; (focus (decide)); rotate_right 1))) ) | ((fail_if_success (with_reducible show wpAny _ _ (eval (Expr.Name _ _) (compEnvC _ _ _ _)) _ _ _)); k_dflt (first | (name_kind "local"; refine' nameX_L ?_ ?_ ?_ ?_ ?_; rotate_right 5; rotate_left 4; (focus (first | kernel_rfl! | rfl)); rotate_right 4; rotate_left 3; (focus (rfl)); rotate_right 3; (focus (k_asm)); (focus (rfl)); k_whole) | (name_kind "globalImplicit"; first | (refine' nameX_K ?_ ?_ ?_ ?_ ?_ ?_ ?_; rotate_right 7; rotate_left 6; (focus (first | kernel_rfl! | rfl)); rotate_right 6; (focus (k_asm)); (focus (k_asm)); (focus (k_asm)); rotate_left 2; (focus (rfl)); rotate_right 2; (focus (k_is)); k_whole) | (refine' nameX_B ?_ ?_ ?_ ?_ ?_ ?_ ?_ ?_ ?_; rotate_right 9; rotate_left 8; (focus (first | kernel_rfl! | rfl)); rotate_right 8; (focus (k_asm)); (focus (k_asm)); (focus (k_asm)); rotate_left 4; (focus (rfl)); rotate_right 4; (focus (k_is)); (focus (boot_fast)); (focus (decide)); k_whole)) | (name_kind "cell"; refine' nameX_C ?_ ?_ ?_ ?_ ?_ ?_ ?_; rotate_right 7; rotate_left 6; (focus (first | kernel_rfl! | rfl)); rotate_right 6; rotate_left 5; (focus (rfl)); rotate_right 5; (focus (k_asm)); (focus (rfl)); (focus (k_mem)); (focus (k_asm)); k_whole))))))
  k_with "fold" => ((fail_if_success (fail_if_success k_fold)); (refine (let qk := _; let ek := _; (?_ : wpAny _ _ _ qk ek _))))
  k_with "isTrue BoolOp" => (k_here; k_extra "fold")
  k_with "isTrue Compare" => (k_here; k_extra "fold")
  k_with "isTrue UnaryOp" => (k_here; k_extra "fold")
  k_with "eval Call" => (k_here; k_extra "fold")
  k_with "eval Compare" => (k_here; k_extra "fold")
  k_with "eval BinOp" => (k_here; k_extra "fold")
  k_with "eval Tuple" => (k_here; k_extra "fold")
  k_with "eval List" => (k_here; k_extra "fold")
  trivial
set_option maxHeartbeats 4000000 in
theorem write_none (t0 : Unit) (news : List (Addr × Obj)) :
    CallOf w mean mg mb 231 [.none] 2 news (fun h₀ L m s Q => CbRet h₀ L m news s Q fun t => .str (Str.ofString "none") t) := by
  dsimp only [CallOf]
  intro dp un gd cn cs a9 ccd cl outer A₀ base h₀ L m s Q E B F X N T hk hd9 hu9 hret
  suffices hz : (laid.heap_1 = laid.heap_1 → PySem.Challenge.rw_nu0021_01 = PySem.Challenge.rw_nu0021_01 → _) from hz rfl rfl
  k_fill
  intro _ _
  refine wpAny_call ?_
  k_dflt (refine' code_def ?k1 ?k2 ?k3 ?k4 ?k5 ?kA ?kF ?kK ?k6 ?k7 ?k8 ?k9 ?kB ?_ ?c2 ?c3 ?c4 ?c5; (case kA => exact rfl); (case kF => exact rfl); (case kK => assumption); (case k1 => k_asm); (case k2 => k_asm); (case k3 => k_asm); (case k4 => k_asm); (case k5 => k_asm); (case k6 => k_is); (case k7 => k_is); (case k8 => ktr_room); (case k9 => first | exact BindsTo.of_eq rfl | exact binds_K (by k_in) rfl (by k_is) rfl rfl rfl); (case c5 => decide); (case kB => exact locs rfl); (case c2 => exact rfl); (case c3 => exact rfl); (case c4 => exact rfl); k_whole; intro g' L' h' FG' F' N' B' X' T'; (try dsimp only); (try k_lift B'); (try k_fold))
  k_steps
  exact hret _ _ _ (by assumption) (by assumption)
end

section
example : True := by
  k_with_none
  k_with "k_all" => (first | assumption | (intro p9 hp9; (repeat' (first | (with_reducible rename (∀ p : Addr × Obj, p ∈ (_ : List (Addr × Obj)) → @LT.lt Nat _ p.1 _) => hq9; first | replace hq9 := ltN (hq9 p9 hp9) | clear hq9) | (with_reducible rename AllLt _ _ => hq9; first | replace hq9 := ltN (ktn_ltOf hq9 p9 hp9) | clear hq9) | (with_reducible rename (_ ∧ AllLt _ _) => hq9; obtain ⟨hz9, hq9⟩ := hq9))); (refine neN ?_); omega))
  k_with "k_ne" => ((refine neN ?_; (try dsimp only); first | with_reducible assumption | exact Ne.symm (by with_reducible assumption) | exact ne_above (by with_reducible assumption) (by k_mem) | exact Ne.symm (ne_above (by with_reducible assumption) (by k_mem)) | exact ne_above1 (by with_reducible assumption) (by k_mem) | exact Ne.symm (ne_above1 (by with_reducible assumption) (by k_mem))))
  k_with "room" => (first | exact room_at (by with_reducible assumption) rfl rfl | exact room_at0 (by with_reducible assumption) rfl | exact room_at1 (by with_reducible assumption) rfl rfl)
  k_with "units" => (exact units_at (by with_reducible assumption) rfl rfl)
  k_with "x.p" => (refine' Prem.mk ?_ ?_ ?_ ?_ ?_ ?_ ?_ ?_; rotate_right 8; (focus k_asm); (focus k_asm); (focus k_asm); (focus (k_asm)); (focus k_asm); (focus (first | exact rfl | assumption)); (focus ktr_room); (focus ktr_units))
  k_with "x.pn" => (refine' Prem.mk ?_ ?_ ?_ ?_ ?_ ?_ ?_ ?_; rotate_right 8; (focus k_asm); (focus k_asm); (focus k_asm); (focus (first | k_asm | exact news_rot1 (by k_asm) | exact news_rot2 (by k_asm))); (focus k_asm); (focus (first | exact rfl | assumption)); (focus ktr_room); (focus ktr_units))
  k_with "x.pr" => (refine' Prem.mk ?_ ?_ ?_ ?_ ?_ ?_ ?_ ?_; rotate_right 8; (focus k_asm); (focus k_asm); (focus k_asm); (focus (first | k_asm | exact rot1 (by k_asm) | exact rot2 (by k_asm) | exact rot3 (by k_asm))); (focus k_asm); (focus (first | exact rfl | assumption)); (focus ktr_room); (focus ktr_units))
  k_with "x.t" => (intro t9 h9 tk9 F9 N9; (try dsimp only); (try k_fold))
  k_with "x.2" => (intro x9 t91 t92 h9 tk9 F9 N9 l9; (try k_lt l9); (try dsimp only); (try k_fold))
  k_with "x.3" => (intro x9 t91 t92 t93 h9 tk9 F9 N9 l9; (try k_lt l9); (try dsimp only); (try k_fold))
  k_with "x.4" => (intro x9 t91 t92 t93 t94 h9 tk9 F9 N9 l9; (try k_lt l9); (try dsimp only); (try k_fold))
  k_with "x.tt" => (intro t9 t91 h9 tk9 F9 N9; (try dsimp only); (try k_fold))
  k_with "x.take" => (intro d9 a9 b9 t9 t91 t92 n9 h9 tk9 hd0 hd1 ha9 hb9 hb99 F9 N9; (have hb9' := And.intro hb9 hb99); (try dsimp only); (try k_fold))
  k_with "x.r" => (intro e9 t9 ws9 h9 tk9 G9 FG9 R9 U9; (try dsimp only); (try k_fold))
  k_with "x.c" => (intro h9 tk9 g9 T9 F9 N9 B9 X9 P9 D9; (try dsimp only); (try k_fold))
  k_with "eval Name" => ((k_here; (first | ((with_reducible show wpAny _ _ (eval (Expr.Name _ _) (compEnvC _ _ _ _)) _ _ _); k_dflt (first | (name_kind "local"; refine' LCgL.ld_own ?_ ?_ ?_ ?_ ?_ ?_ ?_ ?_; rotate_right 8; rotate_left 6; (focus (first | kernel_rfl! | rfl)); rotate_right 6; rotate_left 5; (focus (rfl)); rotate_right 5; rotate_left 5; (focus (decide)); rotate_right 5; (focus (k_asm)); (focus (k_mem)); (focus (assumption)); (focus (assumption))) | (name_kind "globalImplicit"; first | (refine' LCgL.ld_global ?_ ?_ ?_ ?_ ?_ ?_ ?_ ?_ ?_; rotate_right 9; rotate_left 7; (focus (first | kernel_rfl! | rfl)); rotate_right 7; (focus (k_asm)); (focus (k_asm)); (focus (k_asm)); (focus (k_is)); rotate_left 1; (focus (rfl)); rotate_right 1; rotate_left 1; (focus (rfl)); rotate_right 1; rotate_left 1; (focus (decide)); rotate_right 1) | (refine' LCgL.ld_built ?_ ?_ ?_ ?_ ?_ ?_ ?_ ?_ ?_ ?_ ?_ ?_; rotate_right 12; rotate_left 10; (focus (first | kernel_rfl! | rfl)); rotate_right 10; (focus (k_asm)); (focus (k_asm)); (focus (k_asm)); (focus (k_is)); (focus (boot_by_name)); (focus (decide)); rotate_left 1; (focus (rfl)); rotate_right 1; rotate_left 1; (focus (rfl)); rotate_right 1; rotate_left 1; (focus (rfl)); rotate_right 1; rotate_left 1; (focus (decide)); rotate_right 1))) ) | ((fail_if_success (with_reducible show wpAny _ _ (eval (Expr.Name _ _) (compEnvC _ _ _ _)) _ _ _)); k_dflt (first | (name_kind "local"; refine' nameX_L ?_ ?_ ?_ ?_ ?_; rotate_right 5; rotate_left 4; (focus (first | kernel_rfl! | rfl)); rotate_right 4; rotate_left 3; (focus (rfl)); rotate_right 3; (focus (k_asm)); (focus (rfl)); k_whole) | (name_kind "globalImplicit"; first | (refine' nameX_K ?_ ?_ ?_ ?_ ?_ ?_ ?_; rotate_right 7; rotate_left 6; (focus (first | kernel_rfl! | rfl)); rotate_right 6; (focus (k_asm)); (focus (k_asm)); (focus (k_asm)); rotate_left 2; (focus (rfl)); rotate_right 2; (focus (k_is)); k_whole) | (refine' nameX_B ?_ ?_ ?_ ?_ ?_ ?_ ?_ ?_ ?_; rotate_right 9; rotate_left 8; (focus (first | kernel_rfl! | rfl)); rotate_right 8; (focus (k_asm)); (focus (k_asm)); (focus (k_asm)); rotate_left 4; (focus (rfl)); rotate_right 4; (focus (k_is)); (focus (boot_fast)); (focus (decide)); k_whole)) | (name_kind "cell"; refine' nameX_C ?_ ?_ ?_ ?_ ?_ ?_ ?_; rotate_right 7; rotate_left 6; (focus (first | kernel_rfl! | rfl)); rotate_right 6; rotate_left 5; (focus (rfl)); rotate_right 5; (focus (k_asm)); (focus (rfl)); (focus (k_mem)); (focus (k_asm)); k_whole))))))
  k_with "fold" => ((fail_if_success (fail_if_success k_fold)); (refine (let qk := _; let ek := _; (?_ : wpAny _ _ _ qk ek _))))
  k_with "isTrue BoolOp" => (k_here; k_extra "fold")
  k_with "isTrue Compare" => (k_here; k_extra "fold")
  k_with "isTrue UnaryOp" => (k_here; k_extra "fold")
  k_with "eval Call" => (k_here; k_extra "fold")
  k_with "eval Compare" => (k_here; k_extra "fold")
  k_with "eval BinOp" => (k_here; k_extra "fold")
  k_with "eval Tuple" => (k_here; k_extra "fold")
  k_with "eval List" => (k_here; k_extra "fold")
  trivial
def GcdInv (one other f s : Int) : Prop := 0 ≤ f ∧ 0 ≤ s ∧ Int.gcd f s = Int.gcd one other
theorem gcd_start {one other : Int} (h : 0 ≤ other) : GcdInv one other (if one < 0 then -one else one) other := by
  refine ⟨by split <;> omega, h, ?_⟩
  split
  · simp [Int.gcd]
  · rfl
theorem gcd_turn {one other f s : Int} (h : GcdInv one other f s) (hs : 0 < s) : GcdInv one other s (f.fmod s) := by
  obtain ⟨h1, h2, h3⟩ := h
  rw [fm _ _ hs]
  refine ⟨h2, Int.emod_nonneg _ (by omega), ?_⟩
  rw [← h3]
  obtain ⟨a, rfl⟩ := Int.eq_ofNat_of_zero_le h1
  obtain ⟨b, rfl⟩ := Int.eq_ofNat_of_zero_le h2
  have e : ((a : Int) % (b : Int)) = ((a % b : Nat) : Int) := by omega
  rw [e]
  simp only [Int.gcd, Int.natAbs_natCast]
  rw [Nat.gcd_comm a b, Nat.gcd_rec b a, Nat.gcd_comm]
theorem gcd_end {one other f s : Int} (h : GcdInv one other f s) (hs : ¬ 0 < s) : f = (Int.gcd one other : Int) := by
  obtain ⟨h1, h2, h3⟩ := h
  have : s = 0 := by omega
  subst this
  rw [← h3, Int.gcd_zero_right]
  omega
theorem gcd_less {f s : Int} (hs : 0 < s) : (f.fmod s).toNat < s.toNat := by
  rw [fm _ _ hs]
  have h1 := Int.emod_lt_of_pos f hs
  have h2 := Int.emod_nonneg f (show s ≠ 0 by omega)
  omega
example : True := by
  k_with "exec While Compare cons nil" => (k_while_given ["one", "other"] (fun one other _script f s => GcdInv one other f s) (fun _one _other _script _f s => s.toNat) "first" "second")
  trivial
set_option maxHeartbeats 4000000 in
theorem gcd_is (one other : Int) (t1 t2 : Tok) (h1 : 0 ≤ other) (news : List (Addr × Obj)) :
    CallOf w mean mg mb 79 [.int one t1, .int other t2] 1 news (fun h₀ L m s Q => CbRet h₀ L m news s Q fun t => .int (Int.gcd one other) t) := by
  dsimp only [CallOf]
  intro dp un gd cn cs a9 ccd cl outer A₀ base h₀ L m s Q E B F X N T hk hd9 hu9 hret
  suffices hz : (laid.heap_1 = laid.heap_1 → PySem.Challenge.rw_nu0021_01 = PySem.Challenge.rw_nu0021_01 → _) from hz rfl rfl
  k_fill
  intro _ _
  refine wpAny_call ?_
  k_dflt (refine' code_def ?k1 ?k2 ?k3 ?k4 ?k5 ?kA ?kF ?kK ?k6 ?k7 ?k8 ?k9 ?kB ?_ ?c2 ?c3 ?c4 ?c5; (case kA => exact rfl); (case kF => exact rfl); (case kK => assumption); (case k1 => k_asm); (case k2 => k_asm); (case k3 => k_asm); (case k4 => k_asm); (case k5 => k_asm); (case k6 => k_is); (case k7 => k_is); (case k8 => ktr_room); (case k9 => first | exact BindsTo.of_eq rfl | exact binds_K (by k_in) rfl (by k_is) rfl rfl rfl); (case c5 => decide); (case kB => exact locs rfl); (case c2 => exact rfl); (case c3 => exact rfl); (case c4 => exact rfl); k_whole; intro g' L' h' FG' F' N' B' X' T'; (try dsimp only); (try k_lift B'); (try k_fold))
  have hst := gcd_start (one := one) h1
  k_steps
  · refine' ksw_end (_, _, _, _) ?wF ?wN ?wn ?wf ?wk ?wr ?wp ?wm
    case wF => assumption
    case wN => assumption
    case wk => exact List.forall_mem_cons.mpr ⟨by with_unfolding_all rfl, List.forall_mem_cons.mpr ⟨by with_unfolding_all rfl, List.forall_mem_nil _⟩⟩
    case wn => intro p hp; repeat (first | exact hp | refine List.mem_cons_of_mem _ ?_)
    case wf => trivial
    case wr => ksw_same
    case wp => exact gcd_turn (by assumption) (by assumption)
    case wm => exact gcd_less (by assumption)
  · have hg := gcd_end (by assumption) (by assumption)
    refine cb_retI hret hg (by assumption) ?_
    exact cb_drop (by assumption) (fun p hp => by repeat (first | exact hp | refine List.mem_cons_of_mem _ ?_))
end

section
example : True := by
  k_with_none
  k_with "k_all" => (first | assumption | (intro p9 hp9; (repeat' (first | (with_reducible rename (∀ p : Addr × Obj, p ∈ (_ : List (Addr × Obj)) → @LT.lt Nat _ p.1 _) => hq9; first | replace hq9 := ltN (hq9 p9 hp9) | clear hq9) | (with_reducible rename AllLt _ _ => hq9; first | replace hq9 := ltN (ktn_ltOf hq9 p9 hp9) | clear hq9) | (with_reducible rename (_ ∧ AllLt _ _) => hq9; obtain ⟨hz9, hq9⟩ := hq9))); (refine neN ?_); omega))
  k_with "k_ne" => ((refine neN ?_; (try dsimp only); first | with_reducible assumption | exact Ne.symm (by with_reducible assumption) | exact ne_above (by with_reducible assumption) (by k_mem) | exact Ne.symm (ne_above (by with_reducible assumption) (by k_mem)) | exact ne_above1 (by with_reducible assumption) (by k_mem) | exact Ne.symm (ne_above1 (by with_reducible assumption) (by k_mem))))
  k_with "room" => (first | exact room_at (by with_reducible assumption) rfl rfl | exact room_at0 (by with_reducible assumption) rfl | exact room_at1 (by with_reducible assumption) rfl rfl)
  k_with "units" => (exact units_at (by with_reducible assumption) rfl rfl)
  k_with "x.p" => (refine' Prem.mk ?_ ?_ ?_ ?_ ?_ ?_ ?_ ?_; rotate_right 8; (focus k_asm); (focus k_asm); (focus k_asm); (focus (k_asm)); (focus k_asm); (focus (first | exact rfl | assumption)); (focus ktr_room); (focus ktr_units))
  k_with "x.pn" => (refine' Prem.mk ?_ ?_ ?_ ?_ ?_ ?_ ?_ ?_; rotate_right 8; (focus k_asm); (focus k_asm); (focus k_asm); (focus (first | k_asm | exact news_rot1 (by k_asm) | exact news_rot2 (by k_asm))); (focus k_asm); (focus (first | exact rfl | assumption)); (focus ktr_room); (focus ktr_units))
  k_with "x.pr" => (refine' Prem.mk ?_ ?_ ?_ ?_ ?_ ?_ ?_ ?_; rotate_right 8; (focus k_asm); (focus k_asm); (focus k_asm); (focus (first | k_asm | exact rot1 (by k_asm) | exact rot2 (by k_asm) | exact rot3 (by k_asm))); (focus k_asm); (focus (first | exact rfl | assumption)); (focus ktr_room); (focus ktr_units))
  k_with "x.t" => (intro t9 h9 tk9 F9 N9; (try dsimp only); (try k_fold))
  k_with "x.2" => (intro x9 t91 t92 h9 tk9 F9 N9 l9; (try k_lt l9); (try dsimp only); (try k_fold))
  k_with "x.3" => (intro x9 t91 t92 t93 h9 tk9 F9 N9 l9; (try k_lt l9); (try dsimp only); (try k_fold))
  k_with "x.4" => (intro x9 t91 t92 t93 t94 h9 tk9 F9 N9 l9; (try k_lt l9); (try dsimp only); (try k_fold))
  k_with "x.tt" => (intro t9 t91 h9 tk9 F9 N9; (try dsimp only); (try k_fold))
  k_with "x.take" => (intro d9 a9 b9 t9 t91 t92 n9 h9 tk9 hd0 hd1 ha9 hb9 hb99 F9 N9; (have hb9' := And.intro hb9 hb99); (try dsimp only); (try k_fold))
  k_with "x.r" => (intro e9 t9 ws9 h9 tk9 G9 FG9 R9 U9; (try dsimp only); (try k_fold))
  k_with "x.c" => (intro h9 tk9 g9 T9 F9 N9 B9 X9 P9 D9; (try dsimp only); (try k_fold))
  k_with "eval Name" => ((k_here; (first | ((with_reducible show wpAny _ _ (eval (Expr.Name _ _) (compEnvC _ _ _ _)) _ _ _); k_dflt (first | (name_kind "local"; refine' LCgL.ld_own ?_ ?_ ?_ ?_ ?_ ?_ ?_ ?_; rotate_right 8; rotate_left 6; (focus (first | kernel_rfl! | rfl)); rotate_right 6; rotate_left 5; (focus (rfl)); rotate_right 5; rotate_left 5; (focus (decide)); rotate_right 5; (focus (k_asm)); (focus (k_mem)); (focus (assumption)); (focus (assumption))) | (name_kind "globalImplicit"; first | (refine' LCgL.ld_global ?_ ?_ ?_ ?_ ?_ ?_ ?_ ?_ ?_; rotate_right 9; rotate_left 7; (focus (first | kernel_rfl! | rfl)); rotate_right 7; (focus (k_asm)); (focus (k_asm)); (focus (k_asm)); (focus (k_is)); rotate_left 1; (focus (rfl)); rotate_right 1; rotate_left 1; (focus (rfl)); rotate_right 1; rotate_left 1; (focus (decide)); rotate_right 1) | (refine' LCgL.ld_built ?_ ?_ ?_ ?_ ?_ ?_ ?_ ?_ ?_ ?_ ?_ ?_; rotate_right 12; rotate_left 10; (focus (first | kernel_rfl! | rfl)); rotate_right 10; (focus (k_asm)); (focus (k_asm)); (focus (k_asm)); (focus (k_is)); (focus (boot_by_name)); (focus (decide)); rotate_left 1; (focus (rfl)); rotate_right 1; rotate_left 1; (focus (rfl)); rotate_right 1; rotate_left 1; (focus (rfl)); rotate_right 1; rotate_left 1; (focus (decide)); rotate_right 1))) ) | ((fail_if_success (with_reducible show wpAny _ _ (eval (Expr.Name _ _) (compEnvC _ _ _ _)) _ _ _)); k_dflt (first | (name_kind "local"; refine' nameX_L ?_ ?_ ?_ ?_ ?_; rotate_right 5; rotate_left 4; (focus (first | kernel_rfl! | rfl)); rotate_right 4; rotate_left 3; (focus (rfl)); rotate_right 3; (focus (k_asm)); (focus (rfl)); k_whole) | (name_kind "globalImplicit"; first | (refine' nameX_K ?_ ?_ ?_ ?_ ?_ ?_ ?_; rotate_right 7; rotate_left 6; (focus (first | kernel_rfl! | rfl)); rotate_right 6; (focus (k_asm)); (focus (k_asm)); (focus (k_asm)); rotate_left 2; (focus (rfl)); rotate_right 2; (focus (k_is)); k_whole) | (refine' nameX_B ?_ ?_ ?_ ?_ ?_ ?_ ?_ ?_ ?_; rotate_right 9; rotate_left 8; (focus (first | kernel_rfl! | rfl)); rotate_right 8; (focus (k_asm)); (focus (k_asm)); (focus (k_asm)); rotate_left 4; (focus (rfl)); rotate_right 4; (focus (k_is)); (focus (boot_fast)); (focus (decide)); k_whole)) | (name_kind "cell"; refine' nameX_C ?_ ?_ ?_ ?_ ?_ ?_ ?_; rotate_right 7; rotate_left 6; (focus (first | kernel_rfl! | rfl)); rotate_right 6; rotate_left 5; (focus (rfl)); rotate_right 5; (focus (k_asm)); (focus (rfl)); (focus (k_mem)); (focus (k_asm)); k_whole))))))
  k_with "fold" => ((fail_if_success (fail_if_success k_fold)); (refine (let qk := _; let ek := _; (?_ : wpAny _ _ _ qk ek _))))
  k_with "isTrue BoolOp" => (k_here; k_extra "fold")
  k_with "isTrue Compare" => (k_here; k_extra "fold")
  k_with "isTrue UnaryOp" => (k_here; k_extra "fold")
  k_with "eval Call" => (k_here; k_extra "fold")
  k_with "eval Compare" => (k_here; k_extra "fold")
  k_with "eval BinOp" => (k_here; k_extra "fold")
  k_with "eval Tuple" => (k_here; k_extra "fold")
  k_with "eval List" => (k_here; k_extra "fold")
  trivial
noncomputable def fracT (a b : Int) : Int := a / (Int.gcd a b : Int)
noncomputable def fracB (a b : Int) : Int := b / (Int.gcd a b : Int)
theorem gcd_facts {a b : Int} (hb : 0 < b ∧ b < 1000000) : 0 < (Int.gcd a b : Int) ∧ (Int.gcd a b : Int) < 1000000 := by
  have h1 : 0 < Int.gcd a b := Int.gcd_pos_of_ne_zero_right _ (by omega)
  have h2 : Int.gcd a b ≤ b.natAbs := Nat.le_of_dvd (by omega) (Int.gcd_dvd_natAbs_right a b)
  omega
example : True := by
  k_with "call ref" => ((k_here; k_dflt (refine' callBy (gcd_is _ _ _ _ ?_ _) ?_ ?_; rotate_right 2; (focus (walk_at "x.p")); (all_goals skip); rotate_right 1; (focus (omega)); walk_at "x.t")))
  trivial
example : True := by
  k_with "binaryOp FloorDiv int int" => ((refine floordiv_int (by omega) ?_ (Or.inl (PyProof.noPylong_small (by omega)))))
  trivial
set_option maxHeartbeats 4000000 in
theorem frac_is (a b : Int) (t1 t2 : Tok) (hb : 0 < b ∧ b < 1000000) (news : List (Addr × Obj)) :
    CallOf w mean mg mb 87 [.int a t1, .int b t2] 2 news (fun h₀ L m s Q => Ret2 h₀ L m news s Q (fracT a b) (fracB a b)) := by
  dsimp only [CallOf]
  intro dp un gd cn cs a9 ccd cl outer A₀ base h₀ L m s Q E B F X N T hk hd9 hu9 hret
  suffices hz : (laid.heap_1 = laid.heap_1 → PySem.Challenge.rw_nu0021_01 = PySem.Challenge.rw_nu0021_01 → _) from hz rfl rfl
  k_fill
  intro _ _
  refine wpAny_call ?_
  k_dflt (refine' code_def ?k1 ?k2 ?k3 ?k4 ?k5 ?kA ?kF ?kK ?k6 ?k7 ?k8 ?k9 ?kB ?_ ?c2 ?c3 ?c4 ?c5; (case kA => exact rfl); (case kF => exact rfl); (case kK => assumption); (case k1 => k_asm); (case k2 => k_asm); (case k3 => k_asm); (case k4 => k_asm); (case k5 => k_asm); (case k6 => k_is); (case k7 => k_is); (case k8 => ktr_room); (case k9 => first | exact BindsTo.of_eq rfl | exact binds_K (by k_in) rfl (by k_is) rfl rfl rfl); (case c5 => decide); (case kB => exact locs rfl); (case c2 => exact rfl); (case c3 => exact rfl); (case c4 => exact rfl); k_whole; intro g' L' h' FG' F' N' B' X' T'; (try dsimp only); (try k_lift B'); (try k_fold))
  have hg := gcd_facts (a := a) hb
  k_steps
  · exfalso; omega
  · have e1 : fracT a b = a.fdiv (Int.gcd a b : Int) := by unfold fracT; rw [fd _ _ hg.1]
    have e2 : fracB a b = b.fdiv (Int.gcd a b : Int) := by unfold fracB; rw [fd _ _ hg.1]
    rw [e1, e2] at hret
    refine' hret _ _ _ _ _ ?zf1 ?zn1 ?zo1
    case zf1 => assumption
    case zn1 => exact cb_drop (by assumption) (List.forall_mem_cons.mpr ⟨List.Mem.head _, fun p hp => by repeat (first | exact hp | refine List.mem_cons_of_mem _ ?_)⟩)
    case zo1 => (first | exact lts_of (by assumption) (fun p hp => by repeat (first | exact hp | refine List.mem_cons_of_mem _ ?_)) | (intro p9 hp9; (repeat' (first | (with_reducible rename (∀ p : Addr × Obj, p ∈ (_ : List (Addr × Obj)) → @LT.lt Nat _ p.1 _) => hq9; first | replace hq9 := ltN (hq9 p9 hp9) | clear hq9) | (with_reducible rename AllLt _ _ => hq9; first | replace hq9 := ltN (ktn_ltOf hq9 p9 hp9) | clear hq9) | (with_reducible rename (_ ∧ AllLt _ _) => hq9; obtain ⟨hz9, hq9⟩ := hq9) | (with_reducible rename (_ ∧ _ ∧ AllLt _ _) => hq9; obtain ⟨hz9, hq9⟩ := hq9) | (with_reducible rename (_ ∧ _ ∧ _ ∧ AllLt _ _) => hq9; obtain ⟨hz9, hq9⟩ := hq9) | (with_reducible rename (_ ∧ _ ∧ _ ∧ _ ∧ AllLt _ _) => hq9; obtain ⟨hz9, hq9⟩ := hq9) | (with_reducible rename (_ ∧ _ ∧ _ ∧ _ ∧ _ ∧ AllLt _ _) => hq9; obtain ⟨hz9, hq9⟩ := hq9) | (with_reducible rename (_ ∧ _ ∧ _ ∧ _ ∧ _ ∧ _ ∧ AllLt _ _) => hq9; obtain ⟨hz9, hq9⟩ := hq9) | (with_reducible rename (_ ∧ _ ∧ _ ∧ _ ∧ _ ∧ _ ∧ _ ∧ AllLt _ _) => hq9; obtain ⟨hz9, hq9⟩ := hq9) | (with_reducible rename (_ ∧ _ ∧ _ ∧ _ ∧ _ ∧ _ ∧ _ ∧ _ ∧ AllLt _ _) => hq9; obtain ⟨hz9, hq9⟩ := hq9))); first | assumption | (refine ltN ?_; omega)))
example : True := by
  k_with "call ref" => ((k_here; k_dflt (refine' callBy (frac_is _ _ _ _ ?_ _) ?_ ?_; rotate_right 2; (focus (walk_at "x.p")); (all_goals skip); rotate_right 1; (focus (omega)); walk_at "x.2")))
  trivial
set_option maxHeartbeats 4000000 in
theorem times_is (a b c d : Int) (ta tb tc td : Tok) (x y : Addr) (news : List (Addr × Obj)) (hx : (x, tupO [.int a ta, .int b tb]) ∈ news) (hy : (y, tupO [.int c tc, .int d td]) ∈ news) (hc : 0 ≤ c ∧ c < 1000) (hb : b = 1) (hd : d = 1) :
    CallOf w mean mg mb 94 [.ref x, .ref y] 3 news (fun h₀ L m s Q => Ret2 h₀ L m news s Q (fracT (a * c) (b * d)) (fracB (a * c) (b * d))) := by
  subst hb; subst hd
  dsimp only [CallOf]
  intro dp un gd cn cs a9 ccd cl outer A₀ base h₀ L m s Q E B F X N T hk hd9 hu9 hret
  suffices hz : (laid.heap_1 = laid.heap_1 → PySem.Challenge.rw_nu0021_01 = PySem.Challenge.rw_nu0021_01 → _) from hz rfl rfl
  k_fill
  intro _ _
  refine wpAny_call ?_
  k_dflt (refine' code_def ?k1 ?k2 ?k3 ?k4 ?k5 ?kA ?kF ?kK ?k6 ?k7 ?k8 ?k9 ?kB ?_ ?c2 ?c3 ?c4 ?c5; (case kA => exact rfl); (case kF => exact rfl); (case kK => assumption); (case k1 => k_asm); (case k2 => k_asm); (case k3 => k_asm); (case k4 => k_asm); (case k5 => k_asm); (case k6 => k_is); (case k7 => k_is); (case k8 => ktr_room); (case k9 => first | exact BindsTo.of_eq rfl | exact binds_K (by k_in) rfl (by k_is) rfl rfl rfl); (case c5 => decide); (case kB => exact locs rfl); (case c2 => exact rfl); (case c3 => exact rfl); (case c4 => exact rfl); k_whole; intro g' L' h' FG' F' N' B' X' T'; (try dsimp only); (try k_lift B'); (try k_fold))
  k_steps
  refine' hret _ _ _ _ _ ?zf1 ?zn1 ?zo1
  case zf1 => assumption
  case zn1 => exact cb_drop (by assumption) (List.forall_mem_cons.mpr ⟨List.Mem.head _, fun p hp => by repeat (first | exact hp | refine List.mem_cons_of_mem _ ?_)⟩)
  case zo1 => (first | exact lts_of (by assumption) (fun p hp => by repeat (first | exact hp | refine List.mem_cons_of_mem _ ?_)) | (intro p9 hp9; (repeat' (first | (with_reducible rename (∀ p : Addr × Obj, p ∈ (_ : List (Addr × Obj)) → @LT.lt Nat _ p.1 _) => hq9; first | replace hq9 := ltN (hq9 p9 hp9) | clear hq9) | (with_reducible rename AllLt _ _ => hq9; first | replace hq9 := ltN (ktn_ltOf hq9 p9 hp9) | clear hq9) | (with_reducible rename (_ ∧ AllLt _ _) => hq9; obtain ⟨hz9, hq9⟩ := hq9) | (with_reducible rename (_ ∧ _ ∧ AllLt _ _) => hq9; obtain ⟨hz9, hq9⟩ := hq9) | (with_reducible rename (_ ∧ _ ∧ _ ∧ AllLt _ _) => hq9; obtain ⟨hz9, hq9⟩ := hq9) | (with_reducible rename (_ ∧ _ ∧ _ ∧ _ ∧ AllLt _ _) => hq9; obtain ⟨hz9, hq9⟩ := hq9) | (with_reducible rename (_ ∧ _ ∧ _ ∧ _ ∧ _ ∧ AllLt _ _) => hq9; obtain ⟨hz9, hq9⟩ := hq9) | (with_reducible rename (_ ∧ _ ∧ _ ∧ _ ∧ _ ∧ _ ∧ AllLt _ _) => hq9; obtain ⟨hz9, hq9⟩ := hq9) | (with_reducible rename (_ ∧ _ ∧ _ ∧ _ ∧ _ ∧ _ ∧ _ ∧ AllLt _ _) => hq9; obtain ⟨hz9, hq9⟩ := hq9) | (with_reducible rename (_ ∧ _ ∧ _ ∧ _ ∧ _ ∧ _ ∧ _ ∧ _ ∧ AllLt _ _) => hq9; obtain ⟨hz9, hq9⟩ := hq9))); first | assumption | (refine ltN ?_; omega)))
set_option maxHeartbeats 4000000 in
theorem divided_is (a b c d : Int) (ta tb tc td : Tok) (x y : Addr) (news : List (Addr × Obj)) (hx : (x, tupO [.int a ta, .int b tb]) ∈ news) (hy : (y, tupO [.int c tc, .int d td]) ∈ news) (hc : 0 < c ∧ c < 1000) (hb : b = 1) (hd : d = 1) :
    CallOf w mean mg mb 101 [.ref x, .ref y] 3 news (fun h₀ L m s Q => Ret2 h₀ L m news s Q (fracT (a * d) (b * c)) (fracB (a * d) (b * c))) := by
  subst hb; subst hd
  dsimp only [CallOf]
  intro dp un gd cn cs a9 ccd cl outer A₀ base h₀ L m s Q E B F X N T hk hd9 hu9 hret
  suffices hz : (laid.heap_1 = laid.heap_1 → PySem.Challenge.rw_nu0021_01 = PySem.Challenge.rw_nu0021_01 → _) from hz rfl rfl
  k_fill
  intro _ _
  refine wpAny_call ?_
  k_dflt (refine' code_def ?k1 ?k2 ?k3 ?k4 ?k5 ?kA ?kF ?kK ?k6 ?k7 ?k8 ?k9 ?kB ?_ ?c2 ?c3 ?c4 ?c5; (case kA => exact rfl); (case kF => exact rfl); (case kK => assumption); (case k1 => k_asm); (case k2 => k_asm); (case k3 => k_asm); (case k4 => k_asm); (case k5 => k_asm); (case k6 => k_is); (case k7 => k_is); (case k8 => ktr_room); (case k9 => first | exact BindsTo.of_eq rfl | exact binds_K (by k_in) rfl (by k_is) rfl rfl rfl); (case c5 => decide); (case kB => exact locs rfl); (case c2 => exact rfl); (case c3 => exact rfl); (case c4 => exact rfl); k_whole; intro g' L' h' FG' F' N' B' X' T'; (try dsimp only); (try k_lift B'); (try k_fold))
  k_steps
  · exfalso; omega
  · refine' hret _ _ _ _ _ ?zf1 ?zn1 ?zo1
    case zf1 => assumption
    case zn1 => exact cb_drop (by assumption) (List.forall_mem_cons.mpr ⟨List.Mem.head _, fun p hp => by repeat (first | exact hp | refine List.mem_cons_of_mem _ ?_)⟩)
    case zo1 => (first | exact lts_of (by assumption) (fun p hp => by repeat (first | exact hp | refine List.mem_cons_of_mem _ ?_)) | (intro p9 hp9; (repeat' (first | (with_reducible rename (∀ p : Addr × Obj, p ∈ (_ : List (Addr × Obj)) → @LT.lt Nat _ p.1 _) => hq9; first | replace hq9 := ltN (hq9 p9 hp9) | clear hq9) | (with_reducible rename AllLt _ _ => hq9; first | replace hq9 := ltN (ktn_ltOf hq9 p9 hp9) | clear hq9) | (with_reducible rename (_ ∧ AllLt _ _) => hq9; obtain ⟨hz9, hq9⟩ := hq9) | (with_reducible rename (_ ∧ _ ∧ AllLt _ _) => hq9; obtain ⟨hz9, hq9⟩ := hq9) | (with_reducible rename (_ ∧ _ ∧ _ ∧ AllLt _ _) => hq9; obtain ⟨hz9, hq9⟩ := hq9) | (with_reducible rename (_ ∧ _ ∧ _ ∧ _ ∧ AllLt _ _) => hq9; obtain ⟨hz9, hq9⟩ := hq9) | (with_reducible rename (_ ∧ _ ∧ _ ∧ _ ∧ _ ∧ AllLt _ _) => hq9; obtain ⟨hz9, hq9⟩ := hq9) | (with_reducible rename (_ ∧ _ ∧ _ ∧ _ ∧ _ ∧ _ ∧ AllLt _ _) => hq9; obtain ⟨hz9, hq9⟩ := hq9) | (with_reducible rename (_ ∧ _ ∧ _ ∧ _ ∧ _ ∧ _ ∧ _ ∧ AllLt _ _) => hq9; obtain ⟨hz9, hq9⟩ := hq9) | (with_reducible rename (_ ∧ _ ∧ _ ∧ _ ∧ _ ∧ _ ∧ _ ∧ _ ∧ AllLt _ _) => hq9; obtain ⟨hz9, hq9⟩ := hq9))); first | assumption | (refine ltN ?_; omega)))
end

section
example : True := by
  k_with_none
  k_with "k_all" => (first | assumption | (intro p9 hp9; (repeat' (first | (with_reducible rename (∀ p : Addr × Obj, p ∈ (_ : List (Addr × Obj)) → @LT.lt Nat _ p.1 _) => hq9; first | replace hq9 := ltN (hq9 p9 hp9) | clear hq9) | (with_reducible rename AllLt _ _ => hq9; first | replace hq9 := ltN (ktn_ltOf hq9 p9 hp9) | clear hq9) | (with_reducible rename (_ ∧ AllLt _ _) => hq9; obtain ⟨hz9, hq9⟩ := hq9))); (refine neN ?_); omega))
  k_with "k_ne" => ((refine neN ?_; (try dsimp only); first | with_reducible assumption | exact Ne.symm (by with_reducible assumption) | exact ne_above (by with_reducible assumption) (by k_mem) | exact Ne.symm (ne_above (by with_reducible assumption) (by k_mem)) | exact ne_above1 (by with_reducible assumption) (by k_mem) | exact Ne.symm (ne_above1 (by with_reducible assumption) (by k_mem))))
  k_with "room" => (first | exact room_at (by with_reducible assumption) rfl rfl | exact room_at0 (by with_reducible assumption) rfl | exact room_at1 (by with_reducible assumption) rfl rfl)
  k_with "units" => (exact units_at (by with_reducible assumption) rfl rfl)
  k_with "x.p" => (refine' Prem.mk ?_ ?_ ?_ ?_ ?_ ?_ ?_ ?_; rotate_right 8; (focus k_asm); (focus k_asm); (focus k_asm); (focus (k_asm)); (focus k_asm); (focus (first | exact rfl | assumption)); (focus ktr_room); (focus ktr_units))
  k_with "x.pn" => (refine' Prem.mk ?_ ?_ ?_ ?_ ?_ ?_ ?_ ?_; rotate_right 8; (focus k_asm); (focus k_asm); (focus k_asm); (focus (first | k_asm | exact news_rot1 (by k_asm) | exact news_rot2 (by k_asm))); (focus k_asm); (focus (first | exact rfl | assumption)); (focus ktr_room); (focus ktr_units))
  k_with "x.pr" => (refine' Prem.mk ?_ ?_ ?_ ?_ ?_ ?_ ?_ ?_; rotate_right 8; (focus k_asm); (focus k_asm); (focus k_asm); (focus (first | k_asm | exact rot1 (by k_asm) | exact rot2 (by k_asm) | exact rot3 (by k_asm))); (focus k_asm); (focus (first | exact rfl | assumption)); (focus ktr_room); (focus ktr_units))
  k_with "x.t" => (intro t9 h9 tk9 F9 N9; (try dsimp only); (try k_fold))
  k_with "x.2" => (intro x9 t91 t92 h9 tk9 F9 N9 l9; (try k_lt l9); (try dsimp only); (try k_fold))
  k_with "x.3" => (intro x9 t91 t92 t93 h9 tk9 F9 N9 l9; (try k_lt l9); (try dsimp only); (try k_fold))
  k_with "x.4" => (intro x9 t91 t92 t93 t94 h9 tk9 F9 N9 l9; (try k_lt l9); (try dsimp only); (try k_fold))
  k_with "x.tt" => (intro t9 t91 h9 tk9 F9 N9; (try dsimp only); (try k_fold))
  k_with "x.take" => (intro d9 a9 b9 t9 t91 t92 n9 h9 tk9 hd0 hd1 ha9 hb9 hb99 F9 N9; (have hb9' := And.intro hb9 hb99); (try dsimp only); (try k_fold))
  k_with "x.r" => (intro e9 t9 ws9 h9 tk9 G9 FG9 R9 U9; (try dsimp only); (try k_fold))
  k_with "x.c" => (intro h9 tk9 g9 T9 F9 N9 B9 X9 P9 D9; (try dsimp only); (try k_fold))
  k_with "eval Name" => ((k_here; (first | ((with_reducible show wpAny _ _ (eval (Expr.Name _ _) (compEnvC _ _ _ _)) _ _ _); k_dflt (first | (name_kind "local"; refine' LCgL.ld_own ?_ ?_ ?_ ?_ ?_ ?_ ?_ ?_; rotate_right 8; rotate_left 6; (focus (first | kernel_rfl! | rfl)); rotate_right 6; rotate_left 5; (focus (rfl)); rotate_right 5; rotate_left 5; (focus (decide)); rotate_right 5; (focus (k_asm)); (focus (k_mem)); (focus (assumption)); (focus (assumption))) | (name_kind "globalImplicit"; first | (refine' LCgL.ld_global ?_ ?_ ?_ ?_ ?_ ?_ ?_ ?_ ?_; rotate_right 9; rotate_left 7; (focus (first | kernel_rfl! | rfl)); rotate_right 7; (focus (k_asm)); (focus (k_asm)); (focus (k_asm)); (focus (k_is)); rotate_left 1; (focus (rfl)); rotate_right 1; rotate_left 1; (focus (rfl)); rotate_right 1; rotate_left 1; (focus (decide)); rotate_right 1) | (refine' LCgL.ld_built ?_ ?_ ?_ ?_ ?_ ?_ ?_ ?_ ?_ ?_ ?_ ?_; rotate_right 12; rotate_left 10; (focus (first | kernel_rfl! | rfl)); rotate_right 10; (focus (k_asm)); (focus (k_asm)); (focus (k_asm)); (focus (k_is)); (focus (boot_by_name)); (focus (decide)); rotate_left 1; (focus (rfl)); rotate_right 1; rotate_left 1; (focus (rfl)); rotate_right 1; rotate_left 1; (focus (rfl)); rotate_right 1; rotate_left 1; (focus (decide)); rotate_right 1))) ) | ((fail_if_success (with_reducible show wpAny _ _ (eval (Expr.Name _ _) (compEnvC _ _ _ _)) _ _ _)); k_dflt (first | (name_kind "local"; refine' nameX_L ?_ ?_ ?_ ?_ ?_; rotate_right 5; rotate_left 4; (focus (first | kernel_rfl! | rfl)); rotate_right 4; rotate_left 3; (focus (rfl)); rotate_right 3; (focus (k_asm)); (focus (rfl)); k_whole) | (name_kind "globalImplicit"; first | (refine' nameX_K ?_ ?_ ?_ ?_ ?_ ?_ ?_; rotate_right 7; rotate_left 6; (focus (first | kernel_rfl! | rfl)); rotate_right 6; (focus (k_asm)); (focus (k_asm)); (focus (k_asm)); rotate_left 2; (focus (rfl)); rotate_right 2; (focus (k_is)); k_whole) | (refine' nameX_B ?_ ?_ ?_ ?_ ?_ ?_ ?_ ?_ ?_; rotate_right 9; rotate_left 8; (focus (first | kernel_rfl! | rfl)); rotate_right 8; (focus (k_asm)); (focus (k_asm)); (focus (k_asm)); rotate_left 4; (focus (rfl)); rotate_right 4; (focus (k_is)); (focus (boot_fast)); (focus (decide)); k_whole)) | (name_kind "cell"; refine' nameX_C ?_ ?_ ?_ ?_ ?_ ?_ ?_; rotate_right 7; rotate_left 6; (focus (first | kernel_rfl! | rfl)); rotate_right 6; rotate_left 5; (focus (rfl)); rotate_right 5; (focus (k_asm)); (focus (rfl)); (focus (k_mem)); (focus (k_asm)); k_whole))))))
  k_with "fold" => ((fail_if_success (fail_if_success k_fold)); (refine (let qk := _; let ek := _; (?_ : wpAny _ _ _ qk ek _))))
  k_with "isTrue BoolOp" => (k_here; k_extra "fold")
  k_with "isTrue Compare" => (k_here; k_extra "fold")
  k_with "isTrue UnaryOp" => (k_here; k_extra "fold")
  k_with "eval Call" => (k_here; k_extra "fold")
  k_with "eval Compare" => (k_here; k_extra "fold")
  k_with "eval BinOp" => (k_here; k_extra "fold")
  k_with "eval Tuple" => (k_here; k_extra "fold")
  k_with "eval List" => (k_here; k_extra "fold")
  trivial
example : True := by
  k_with "call ref" => ((k_here; k_dflt (refine' callBy (gcd_is _ _ _ _ ?_ _) ?_ ?_; rotate_right 2; (focus (walk_at "x.p")); (all_goals skip); rotate_right 1; (focus (omega)); walk_at "x.t")))
  trivial
example : True := by
  k_with "binaryOp FloorDiv int int" => ((refine floordiv_int (by omega) ?_ (Or.inl (PyProof.noPylong_small (by omega)))))
  trivial
set_option maxHeartbeats 4000000 in
theorem frac1_is (a : Int) (t1 : Tok) (ha : 0 ≤ a ∧ a < 1000) (news : List (Addr × Obj)) :
    CallOf w mean mg mb 87 [.int a t1] 2 news (fun h₀ L m s Q => Ret2 h₀ L m news s Q a 1) := by
  dsimp only [CallOf]
  intro dp un gd cn cs a9 ccd cl outer A₀ base h₀ L m s Q E B F X N T hk hd9 hu9 hret
  suffices hz : (laid.heap_1 = laid.heap_1 → PySem.Challenge.rw_nu0021_01 = PySem.Challenge.rw_nu0021_01 → _) from hz rfl rfl
  k_fill
  intro _ _
  refine wpAny_call ?_
  k_dflt (refine' code_def ?k1 ?k2 ?k3 ?k4 ?k5 ?kA ?kF ?kK ?k6 ?k7 ?k8 ?k9 ?kB ?_ ?c2 ?c3 ?c4 ?c5; (case kA => exact rfl); (case kF => exact rfl); (case kK => assumption); (case k1 => k_asm); (case k2 => k_asm); (case k3 => k_asm); (case k4 => k_asm); (case k5 => k_asm); (case k6 => k_is); (case k7 => k_is); (case k8 => ktr_room); (case k9 => first | exact BindsTo.of_eq rfl | exact binds_K (by k_in) rfl (by k_is) rfl rfl rfl); (case c5 => decide); (case kB => exact locs rfl); (case c2 => exact rfl); (case c3 => exact rfl); (case c4 => exact rfl); k_whole; intro g' L' h' FG' F' N' B' X' T'; (try dsimp only); (try k_lift B'); (try k_fold))
  have hg : (Int.gcd a 1 : Int) = 1 := by simp
  have e1 : a = a.fdiv (Int.gcd a 1 : Int) := by rw [hg, fd _ _ (by decide), Int.ediv_one]
  have e2 : (1 : Int) = Int.fdiv 1 (Int.gcd a 1 : Int) := by rw [hg]; rfl
  have hret2 : Ret2 h₀ L m news s Q (a.fdiv (Int.gcd a 1 : Int)) (Int.fdiv 1 (Int.gcd a 1 : Int)) := by rw [← e1, ← e2]; exact hret
  k_steps
  refine' hret2 _ _ _ _ _ ?zf1 ?zn1 ?zo1
  case zf1 => assumption
  case zn1 => exact cb_drop (by assumption) (List.forall_mem_cons.mpr ⟨List.Mem.head _, fun p hp => by repeat (first | exact hp | refine List.mem_cons_of_mem _ ?_)⟩)
  case zo1 => (first | exact lts_of (by assumption) (fun p hp => by repeat (first | exact hp | refine List.mem_cons_of_mem _ ?_)) | (intro p9 hp9; (repeat' (first | (with_reducible rename (∀ p : Addr × Obj, p ∈ (_ : List (Addr × Obj)) → @LT.lt Nat _ p.1 _) => hq9; first | replace hq9 := ltN (hq9 p9 hp9) | clear hq9) | (with_reducible rename AllLt _ _ => hq9; first | replace hq9 := ltN (ktn_ltOf hq9 p9 hp9) | clear hq9) | (with_reducible rename (_ ∧ AllLt _ _) => hq9; obtain ⟨hz9, hq9⟩ := hq9) | (with_reducible rename (_ ∧ _ ∧ AllLt _ _) => hq9; obtain ⟨hz9, hq9⟩ := hq9) | (with_reducible rename (_ ∧ _ ∧ _ ∧ AllLt _ _) => hq9; obtain ⟨hz9, hq9⟩ := hq9) | (with_reducible rename (_ ∧ _ ∧ _ ∧ _ ∧ AllLt _ _) => hq9; obtain ⟨hz9, hq9⟩ := hq9) | (with_reducible rename (_ ∧ _ ∧ _ ∧ _ ∧ _ ∧ AllLt _ _) => hq9; obtain ⟨hz9, hq9⟩ := hq9) | (with_reducible rename (_ ∧ _ ∧ _ ∧ _ ∧ _ ∧ _ ∧ AllLt _ _) => hq9; obtain ⟨hz9, hq9⟩ := hq9) | (with_reducible rename (_ ∧ _ ∧ _ ∧ _ ∧ _ ∧ _ ∧ _ ∧ AllLt _ _) => hq9; obtain ⟨hz9, hq9⟩ := hq9) | (with_reducible rename (_ ∧ _ ∧ _ ∧ _ ∧ _ ∧ _ ∧ _ ∧ _ ∧ AllLt _ _) => hq9; obtain ⟨hz9, hq9⟩ := hq9))); first | assumption | (refine ltN ?_; omega)))
end

section
example : True := by
  k_with_none
  k_with "k_all" => (first | assumption | (intro p9 hp9; (repeat' (first | (with_reducible rename (∀ p : Addr × Obj, p ∈ (_ : List (Addr × Obj)) → @LT.lt Nat _ p.1 _) => hq9; first | replace hq9 := ltN (hq9 p9 hp9) | clear hq9) | (with_reducible rename AllLt _ _ => hq9; first | replace hq9 := ltN (ktn_ltOf hq9 p9 hp9) | clear hq9) | (with_reducible rename (_ ∧ AllLt _ _) => hq9; obtain ⟨hz9, hq9⟩ := hq9))); (refine neN ?_); omega))
  k_with "k_ne" => ((refine neN ?_; (try dsimp only); first | with_reducible assumption | exact Ne.symm (by with_reducible assumption) | exact ne_above (by with_reducible assumption) (by k_mem) | exact Ne.symm (ne_above (by with_reducible assumption) (by k_mem)) | exact ne_above1 (by with_reducible assumption) (by k_mem) | exact Ne.symm (ne_above1 (by with_reducible assumption) (by k_mem))))
  k_with "room" => (first | exact room_at (by with_reducible assumption) rfl rfl | exact room_at0 (by with_reducible assumption) rfl | exact room_at1 (by with_reducible assumption) rfl rfl)
  k_with "units" => (exact units_at (by with_reducible assumption) rfl rfl)
  k_with "x.p" => (refine' Prem.mk ?_ ?_ ?_ ?_ ?_ ?_ ?_ ?_; rotate_right 8; (focus k_asm); (focus k_asm); (focus k_asm); (focus (k_asm)); (focus k_asm); (focus (first | exact rfl | assumption)); (focus ktr_room); (focus ktr_units))
  k_with "x.pn" => (refine' Prem.mk ?_ ?_ ?_ ?_ ?_ ?_ ?_ ?_; rotate_right 8; (focus k_asm); (focus k_asm); (focus k_asm); (focus (first | k_asm | exact news_rot1 (by k_asm) | exact news_rot2 (by k_asm))); (focus k_asm); (focus (first | exact rfl | assumption)); (focus ktr_room); (focus ktr_units))
  k_with "x.pr" => (refine' Prem.mk ?_ ?_ ?_ ?_ ?_ ?_ ?_ ?_; rotate_right 8; (focus k_asm); (focus k_asm); (focus k_asm); (focus (first | k_asm | exact rot1 (by k_asm) | exact rot2 (by k_asm) | exact rot3 (by k_asm))); (focus k_asm); (focus (first | exact rfl | assumption)); (focus ktr_room); (focus ktr_units))
  k_with "x.t" => (intro t9 h9 tk9 F9 N9; (try dsimp only); (try k_fold))
  k_with "x.2" => (intro x9 t91 t92 h9 tk9 F9 N9 l9; (try k_lt l9); (try dsimp only); (try k_fold))
  k_with "x.3" => (intro x9 t91 t92 t93 h9 tk9 F9 N9 l9; (try k_lt l9); (try dsimp only); (try k_fold))
  k_with "x.4" => (intro x9 t91 t92 t93 t94 h9 tk9 F9 N9 l9; (try k_lt l9); (try dsimp only); (try k_fold))
  k_with "x.tt" => (intro t9 t91 h9 tk9 F9 N9; (try dsimp only); (try k_fold))
  k_with "x.take" => (intro d9 a9 b9 t9 t91 t92 n9 h9 tk9 hd0 hd1 ha9 hb9 hb99 F9 N9; (have hb9' := And.intro hb9 hb99); (try dsimp only); (try k_fold))
  k_with "x.r" => (intro e9 t9 ws9 h9 tk9 G9 FG9 R9 U9; (try dsimp only); (try k_fold))
  k_with "x.c" => (intro h9 tk9 g9 T9 F9 N9 B9 X9 P9 D9; (try dsimp only); (try k_fold))
  k_with "eval Name" => ((k_here; (first | ((with_reducible show wpAny _ _ (eval (Expr.Name _ _) (compEnvC _ _ _ _)) _ _ _); k_dflt (first | (name_kind "local"; refine' LCgL.ld_own ?_ ?_ ?_ ?_ ?_ ?_ ?_ ?_; rotate_right 8; rotate_left 6; (focus (first | kernel_rfl! | rfl)); rotate_right 6; rotate_left 5; (focus (rfl)); rotate_right 5; rotate_left 5; (focus (decide)); rotate_right 5; (focus (k_asm)); (focus (k_mem)); (focus (assumption)); (focus (assumption))) | (name_kind "globalImplicit"; first | (refine' LCgL.ld_global ?_ ?_ ?_ ?_ ?_ ?_ ?_ ?_ ?_; rotate_right 9; rotate_left 7; (focus (first | kernel_rfl! | rfl)); rotate_right 7; (focus (k_asm)); (focus (k_asm)); (focus (k_asm)); (focus (k_is)); rotate_left 1; (focus (rfl)); rotate_right 1; rotate_left 1; (focus (rfl)); rotate_right 1; rotate_left 1; (focus (decide)); rotate_right 1) | (refine' LCgL.ld_built ?_ ?_ ?_ ?_ ?_ ?_ ?_ ?_ ?_ ?_ ?_ ?_; rotate_right 12; rotate_left 10; (focus (first | kernel_rfl! | rfl)); rotate_right 10; (focus (k_asm)); (focus (k_asm)); (focus (k_asm)); (focus (k_is)); (focus (boot_by_name)); (focus (decide)); rotate_left 1; (focus (rfl)); rotate_right 1; rotate_left 1; (focus (rfl)); rotate_right 1; rotate_left 1; (focus (rfl)); rotate_right 1; rotate_left 1; (focus (decide)); rotate_right 1))) ) | ((fail_if_success (with_reducible show wpAny _ _ (eval (Expr.Name _ _) (compEnvC _ _ _ _)) _ _ _)); k_dflt (first | (name_kind "local"; refine' nameX_L ?_ ?_ ?_ ?_ ?_; rotate_right 5; rotate_left 4; (focus (first | kernel_rfl! | rfl)); rotate_right 4; rotate_left 3; (focus (rfl)); rotate_right 3; (focus (k_asm)); (focus (rfl)); k_whole) | (name_kind "globalImplicit"; first | (refine' nameX_K ?_ ?_ ?_ ?_ ?_ ?_ ?_; rotate_right 7; rotate_left 6; (focus (first | kernel_rfl! | rfl)); rotate_right 6; (focus (k_asm)); (focus (k_asm)); (focus (k_asm)); rotate_left 2; (focus (rfl)); rotate_right 2; (focus (k_is)); k_whole) | (refine' nameX_B ?_ ?_ ?_ ?_ ?_ ?_ ?_ ?_ ?_; rotate_right 9; rotate_left 8; (focus (first | kernel_rfl! | rfl)); rotate_right 8; (focus (k_asm)); (focus (k_asm)); (focus (k_asm)); rotate_left 4; (focus (rfl)); rotate_right 4; (focus (k_is)); (focus (boot_fast)); (focus (decide)); k_whole)) | (name_kind "cell"; refine' nameX_C ?_ ?_ ?_ ?_ ?_ ?_ ?_; rotate_right 7; rotate_left 6; (focus (first | kernel_rfl! | rfl)); rotate_right 6; rotate_left 5; (focus (rfl)); rotate_right 5; (focus (k_asm)); (focus (rfl)); (focus (k_mem)); (focus (k_asm)); k_whole))))))
  k_with "fold" => ((fail_if_success (fail_if_success k_fold)); (refine (let qk := _; let ek := _; (?_ : wpAny _ _ _ qk ek _))))
  k_with "isTrue BoolOp" => (k_here; k_extra "fold")
  k_with "isTrue Compare" => (k_here; k_extra "fold")
  k_with "isTrue UnaryOp" => (k_here; k_extra "fold")
  k_with "eval Call" => (k_here; k_extra "fold")
  k_with "eval Compare" => (k_here; k_extra "fold")
  k_with "eval BinOp" => (k_here; k_extra "fold")
  k_with "eval Tuple" => (k_here; k_extra "fold")
  k_with "eval List" => (k_here; k_extra "fold")
  trivial
example : True := by
  k_with "binaryOp FloorDiv int int" => ((refine floordiv_int (by omega) ?_ (Or.inl (PyProof.noPylong_small (by omega)))))
  trivial
set_option maxHeartbeats 4000000 in
theorem rounded_is (a b : Int) (ta tb : Tok) (x : Addr) (news : List (Addr × Obj)) (hx : (x, tupO [.int a ta, .int b tb]) ∈ news) (hb : 0 < b ∧ b < 1000000) :
    CallOf w mean mg mb 108 [.ref x] 1 news (fun h₀ L m s Q => CbRet h₀ L m news s Q fun t => .int ((2 * a + b) / (2 * b)) t) := by
  dsimp only [CallOf]
  intro dp un gd cn cs a9 ccd cl outer A₀ base h₀ L m s Q E B F X N T hk hd9 hu9 hret
  suffices hz : (laid.heap_1 = laid.heap_1 → PySem.Challenge.rw_nu0021_01 = PySem.Challenge.rw_nu0021_01 → _) from hz rfl rfl
  k_fill
  intro _ _
  refine wpAny_call ?_
  k_dflt (refine' code_def ?k1 ?k2 ?k3 ?k4 ?k5 ?kA ?kF ?kK ?k6 ?k7 ?k8 ?k9 ?kB ?_ ?c2 ?c3 ?c4 ?c5; (case kA => exact rfl); (case kF => exact rfl); (case kK => assumption); (case k1 => k_asm); (case k2 => k_asm); (case k3 => k_asm); (case k4 => k_asm); (case k5 => k_asm); (case k6 => k_is); (case k7 => k_is); (case k8 => ktr_room); (case k9 => first | exact BindsTo.of_eq rfl | exact binds_K (by k_in) rfl (by k_is) rfl rfl rfl); (case c5 => decide); (case kB => exact locs rfl); (case c2 => exact rfl); (case c3 => exact rfl); (case c4 => exact rfl); k_whole; intro g' L' h' FG' F' N' B' X' T'; (try dsimp only); (try k_lift B'); (try k_fold))
  k_steps
  refine cb_retI hret ?_ (by assumption) (by assumption)
  rw [fd _ _ (by omega)]
end

section
example : True := by
  k_with_none
  k_with "k_all" => (first | assumption | (intro p9 hp9; (repeat' (first | (with_reducible rename (∀ p : Addr × Obj, p ∈ (_ : List (Addr × Obj)) → @LT.lt Nat _ p.1 _) => hq9; first | replace hq9 := ltN (hq9 p9 hp9) | clear hq9) | (with_reducible rename AllLt _ _ => hq9; first | replace hq9 := ltN (ktn_ltOf hq9 p9 hp9) | clear hq9) | (with_reducible rename (_ ∧ AllLt _ _) => hq9; obtain ⟨hz9, hq9⟩ := hq9))); (refine neN ?_); omega))
  k_with "k_ne" => ((refine neN ?_; (try dsimp only); first | with_reducible assumption | exact Ne.symm (by with_reducible assumption) | exact ne_above (by with_reducible assumption) (by k_mem) | exact Ne.symm (ne_above (by with_reducible assumption) (by k_mem)) | exact ne_above1 (by with_reducible assumption) (by k_mem) | exact Ne.symm (ne_above1 (by with_reducible assumption) (by k_mem))))
  k_with "room" => (first | exact room_at (by with_reducible assumption) rfl rfl | exact room_at0 (by with_reducible assumption) rfl | exact room_at1 (by with_reducible assumption) rfl rfl)
  k_with "units" => (exact units_at (by with_reducible assumption) rfl rfl)
  k_with "x.p" => (refine' Prem.mk ?_ ?_ ?_ ?_ ?_ ?_ ?_ ?_; rotate_right 8; (focus k_asm); (focus k_asm); (focus k_asm); (focus (k_asm)); (focus k_asm); (focus (first | exact rfl | assumption)); (focus ktr_room); (focus ktr_units))
  k_with "x.pn" => (refine' Prem.mk ?_ ?_ ?_ ?_ ?_ ?_ ?_ ?_; rotate_right 8; (focus k_asm); (focus k_asm); (focus k_asm); (focus (first | k_asm | exact news_rot1 (by k_asm) | exact news_rot2 (by k_asm))); (focus k_asm); (focus (first | exact rfl | assumption)); (focus ktr_room); (focus ktr_units))
  k_with "x.pr" => (refine' Prem.mk ?_ ?_ ?_ ?_ ?_ ?_ ?_ ?_; rotate_right 8; (focus k_asm); (focus k_asm); (focus k_asm); (focus (first | k_asm | exact rot1 (by k_asm) | exact rot2 (by k_asm) | exact rot3 (by k_asm))); (focus k_asm); (focus (first | exact rfl | assumption)); (focus ktr_room); (focus ktr_units))
  k_with "x.t" => (intro t9 h9 tk9 F9 N9; (try dsimp only); (try k_fold))
  k_with "x.2" => (intro x9 t91 t92 h9 tk9 F9 N9 l9; (try k_lt l9); (try dsimp only); (try k_fold))
  k_with "x.3" => (intro x9 t91 t92 t93 h9 tk9 F9 N9 l9; (try k_lt l9); (try dsimp only); (try k_fold))
  k_with "x.4" => (intro x9 t91 t92 t93 t94 h9 tk9 F9 N9 l9; (try k_lt l9); (try dsimp only); (try k_fold))
  k_with "x.tt" => (intro t9 t91 h9 tk9 F9 N9; (try dsimp only); (try k_fold))
  k_with "x.take" => (intro d9 a9 b9 t9 t91 t92 n9 h9 tk9 hd0 hd1 ha9 hb9 hb99 F9 N9; (have hb9' := And.intro hb9 hb99); (try dsimp only); (try k_fold))
  k_with "x.r" => (intro e9 t9 ws9 h9 tk9 G9 FG9 R9 U9; (try dsimp only); (try k_fold))
  k_with "x.c" => (intro h9 tk9 g9 T9 F9 N9 B9 X9 P9 D9; (try dsimp only); (try k_fold))
  k_with "eval Name" => ((k_here; (first | ((with_reducible show wpAny _ _ (eval (Expr.Name _ _) (compEnvC _ _ _ _)) _ _ _); k_dflt (first | (name_kind "local"; refine' LCgL.ld_own ?_ ?_ ?_ ?_ ?_ ?_ ?_ ?_; rotate_right 8; rotate_left 6; (focus (first | kernel_rfl! | rfl)); rotate_right 6; rotate_left 5; (focus (rfl)); rotate_right 5; rotate_left 5; (focus (decide)); rotate_right 5; (focus (k_asm)); (focus (k_mem)); (focus (assumption)); (focus (assumption))) | (name_kind "globalImplicit"; first | (refine' LCgL.ld_global ?_ ?_ ?_ ?_ ?_ ?_ ?_ ?_ ?_; rotate_right 9; rotate_left 7; (focus (first | kernel_rfl! | rfl)); rotate_right 7; (focus (k_asm)); (focus (k_asm)); (focus (k_asm)); (focus (k_is)); rotate_left 1; (focus (rfl)); rotate_right 1; rotate_left 1; (focus (rfl)); rotate_right 1; rotate_left 1; (focus (decide)); rotate_right 1) | (refine' LCgL.ld_built ?_ ?_ ?_ ?_ ?_ ?_ ?_ ?_ ?_ ?_ ?_ ?_; rotate_right 12; rotate_left 10; (focus (first | kernel_rfl! | rfl)); rotate_right 10; (focus (k_asm)); (focus (k_asm)); (focus (k_asm)); (focus (k_is)); (focus (boot_by_name)); (focus (decide)); rotate_left 1; (focus (rfl)); rotate_right 1; rotate_left 1; (focus (rfl)); rotate_right 1; rotate_left 1; (focus (rfl)); rotate_right 1; rotate_left 1; (focus (decide)); rotate_right 1))) ) | ((fail_if_success (with_reducible show wpAny _ _ (eval (Expr.Name _ _) (compEnvC _ _ _ _)) _ _ _)); k_dflt (first | (name_kind "local"; refine' nameX_L ?_ ?_ ?_ ?_ ?_; rotate_right 5; rotate_left 4; (focus (first | kernel_rfl! | rfl)); rotate_right 4; rotate_left 3; (focus (rfl)); rotate_right 3; (focus (k_asm)); (focus (rfl)); k_whole) | (name_kind "globalImplicit"; first | (refine' nameX_K ?_ ?_ ?_ ?_ ?_ ?_ ?_; rotate_right 7; rotate_left 6; (focus (first | kernel_rfl! | rfl)); rotate_right 6; (focus (k_asm)); (focus (k_asm)); (focus (k_asm)); rotate_left 2; (focus (rfl)); rotate_right 2; (focus (k_is)); k_whole) | (refine' nameX_B ?_ ?_ ?_ ?_ ?_ ?_ ?_ ?_ ?_; rotate_right 9; rotate_left 8; (focus (first | kernel_rfl! | rfl)); rotate_right 8; (focus (k_asm)); (focus (k_asm)); (focus (k_asm)); rotate_left 4; (focus (rfl)); rotate_right 4; (focus (k_is)); (focus (boot_fast)); (focus (decide)); k_whole)) | (name_kind "cell"; refine' nameX_C ?_ ?_ ?_ ?_ ?_ ?_ ?_; rotate_right 7; rotate_left 6; (focus (first | kernel_rfl! | rfl)); rotate_right 6; rotate_left 5; (focus (rfl)); rotate_right 5; (focus (k_asm)); (focus (rfl)); (focus (k_mem)); (focus (k_asm)); k_whole))))))
  k_with "fold" => ((fail_if_success (fail_if_success k_fold)); (refine (let qk := _; let ek := _; (?_ : wpAny _ _ _ qk ek _))))
  k_with "isTrue BoolOp" => (k_here; k_extra "fold")
  k_with "isTrue Compare" => (k_here; k_extra "fold")
  k_with "isTrue UnaryOp" => (k_here; k_extra "fold")
  k_with "eval Call" => (k_here; k_extra "fold")
  k_with "eval Compare" => (k_here; k_extra "fold")
  k_with "eval BinOp" => (k_here; k_extra "fold")
  k_with "eval Tuple" => (k_here; k_extra "fold")
  k_with "eval List" => (k_here; k_extra "fold")
  trivial
theorem oneOf_lt {x : Str} {i : Int} {sg : Str} (h : oneOf x i sg = true) : i < (x.length : Int) := by
  unfold oneOf at h
  exact of_decide_eq_true (Bool.and_eq_true_iff.mp h).1
example : True := by
  k_with "subscriptTail" => ((k_here; (with_reducible show wpAny _ _ (subscriptTail _ _ (Value.str _ _) (Value.int _ _)) _ _ _); k_dflt (refine item_str (fitsSsize_of (N := 9223372036854775808) (by omega) (by omega) (Int.le_refl _)) (by omega) (by first | omega | (have q9 := oneOf_lt (by assumption); omega)) ?_); intro kl9))
  trivial
set_option maxHeartbeats 4000000 in
theorem isone_is (x sg : Str) (tA tx tB ti t3 : Tok) (i : Int) (n : Nat) (hx : x.length ≤ 1000) (hsg : sg.length ≤ 100) (hi : 0 ≤ i ∧ i ≤ 1000) (o d : Addr) (news : List (Addr × Obj)) (ho : (o, instObj 146 d) ∈ news) (hd : (d, numD w.params x i tA tx tB ti n) ∈ news) :
    CallOf w mean mg mb 129 [.ref o, .str sg t3] 1 news (fun h₀ L m s Q => CbRet h₀ L m news s Q fun _ => .bool (oneOf x i sg)) := by
  dsimp only [CallOf]
  intro dp un gd cn cs a9 ccd cl outer A₀ base h₀ L m s Q E B F X N T hk hd9 hu9 hret
  suffices hz : (laid.heap_1 = laid.heap_1 → PySem.Challenge.rw_nu0021_01 = PySem.Challenge.rw_nu0021_01 → _) from hz rfl rfl
  k_fill
  intro _ _
  refine wpAny_call ?_
  k_dflt (refine' code_def ?k1 ?k2 ?k3 ?k4 ?k5 ?kA ?kF ?kK ?k6 ?k7 ?k8 ?k9 ?kB ?_ ?c2 ?c3 ?c4 ?c5; (case kA => exact rfl); (case kF => exact rfl); (case kK => assumption); (case k1 => k_asm); (case k2 => k_asm); (case k3 => k_asm); (case k4 => k_asm); (case k5 => k_asm); (case k6 => k_is); (case k7 => k_is); (case k8 => ktr_room); (case k9 => first | exact BindsTo.of_eq rfl | exact binds_K (by k_in) rfl (by k_is) rfl rfl rfl); (case c5 => decide); (case kB => exact locs rfl); (case c2 => exact rfl); (case c3 => exact rfl); (case c4 => exact rfl); k_whole; intro g' L' h' FG' F' N' B' X' T'; (try dsimp only); (try k_lift B'); (try k_fold))
  k_steps
  · refine cb_retB hret ?_ (by assumption) (by assumption)
    unfold oneOf
    have hlt : i < (x.length : Int) := by assumption
    rw [decide_eq_true hlt, Bool.true_and]
  · refine cb_retB hret ?_ (by assumption) (by assumption)
    unfold oneOf
    have hlt : ¬ i < (x.length : Int) := by assumption
    rw [decide_eq_false hlt, Bool.false_and]
noncomputable def skipS (x : Str) (i : Int) (sg : Str) : Str := if oneOf x i sg then Txt.item x i else Str.ofString ""
noncomputable def skipI (x : Str) (i : Int) (sg : Str) : Int := if oneOf x i sg then i + 1 else i
example : True := by
  k_with "call ref" => ((k_here; k_dflt (refine' callBy (isone_is _ _ _ _ _ _ _ _ _ ?_ ?_ ?_ _ _ _ ?_ ?_) ?_ ?_; rotate_right 2; (focus (walk_at "x.p")); (all_goals skip); rotate_right 5; rotate_left 3; (focus (k_mem)); rotate_right 3; rotate_left 3; (focus (k_mem)); rotate_right 3; (focus (omega)); (focus (omega)); (focus (omega)); walk_at "x.t")))
  trivial
set_option maxHeartbeats 4000000 in
theorem skip_is (x sg : Str) (tA tx tB ti t3 : Tok) (i : Int) (hx : x.length ≤ 1000) (hsg : sg.length ≤ 100) (hi : 0 ≤ i ∧ i ≤ 999) (o d : Addr) (rest : List (Addr × Obj)) (hod : @Ne Nat o d) (hr : ∀ p ∈ rest, p.1 ≠ d) :
    CallOf w mean mg mb 136 [.ref o, .str sg t3] 2 ((o, instObj 146 d) :: (d, numD w.params x i tA tx tB ti 2) :: rest) (fun h₀ L m s Q => ∀ t ti' h' tk', Fr h₀ L h' m → News h₀ L h' ((o, instObj 146 d) :: (d, numD w.params x (skipI x i sg) tA tx tB ti' 2) :: rest) → Q (.str (skipS x i sg) t) { s with heap := h', toks := tk' }) := by
  dsimp only [CallOf]
  intro dp un gd cn cs a9 ccd cl outer A₀ base h₀ L m s Q E B F X N T hk hd9 hu9 hret
  suffices hz : (laid.heap_1 = laid.heap_1 → PySem.Challenge.rw_nu0021_01 = PySem.Challenge.rw_nu0021_01 → _) from hz rfl rfl
  k_fill
  intro _ _
  refine wpAny_call ?_
  k_dflt (refine' code_def ?k1 ?k2 ?k3 ?k4 ?k5 ?kA ?kF ?kK ?k6 ?k7 ?k8 ?k9 ?kB ?_ ?c2 ?c3 ?c4 ?c5; (case kA => exact rfl); (case kF => exact rfl); (case kK => assumption); (case k1 => k_asm); (case k2 => k_asm); (case k3 => k_asm); (case k4 => k_asm); (case k5 => k_asm); (case k6 => k_is); (case k7 => k_is); (case k8 => ktr_room); (case k9 => first | exact BindsTo.of_eq rfl | exact binds_K (by k_in) rfl (by k_is) rfl rfl rfl); (case c5 => decide); (case kB => exact locs rfl); (case c2 => exact rfl); (case c3 => exact rfl); (case c4 => exact rfl); k_whole; intro g' L' h' FG' F' N' B' X' T'; (try dsimp only); (try k_lift B'); (try k_fold))
  k_steps
  · have ht : oneOf x i sg = true := by assumption
    have e1 : skipS x i sg = Txt.item x (i + 1 - 1) := by
      unfold skipS
      rw [if_pos ht, show i + 1 - 1 = i by omega]
    have e2 : skipI x i sg = i + 1 := by unfold skipI; rw [if_pos ht]
    rw [e1, e2] at hret
    refine' hret _ _ _ _ ?zf1 ?zn1
    case zf1 => assumption
    case zn1 => assumption
  · have ht : oneOf x i sg = false := by assumption
    have e1 : skipS x i sg = Str.ofString "" := by
      unfold skipS
      rw [ht]; rfl
    have e2 : skipI x i sg = i := by unfold skipI; rw [ht]; rfl
    rw [e1, e2] at hret
    refine' hret _ _ _ _ ?zf2 ?zn2
    case zf2 => assumption
    case zn2 => assumption
theorem skip_no (x sg : Str) (tA tx tB ti t3 : Tok) (i : Int) (hx : x.length ≤ 1000) (hsg : sg.length ≤ 100) (hi : 0 ≤ i ∧ i ≤ 999) (he : oneOf x i sg = false) (o d : Addr) (rest : List (Addr × Obj)) (hod : @Ne Nat o d) (hr : ∀ p ∈ rest, p.1 ≠ d) :
    CallOf w mean mg mb 136 [.ref o, .str sg t3] 2 ((o, instObj 146 d) :: (d, numD w.params x i tA tx tB ti 2) :: rest) (fun h₀ L m s Q => ∀ t ti' h' tk', Fr h₀ L h' m → News h₀ L h' ((o, instObj 146 d) :: (d, numD w.params x i tA tx tB ti' 2) :: rest) → Q (.str (Str.ofString "") t) { s with heap := h', toks := tk' }) := by
  have h := skip_is (w := w) (mean := mean) (mg := mg) (mb := mb) x sg tA tx tB ti t3 i hx hsg hi o d rest hod hr
  have e1 : skipS x i sg = Str.ofString "" := by unfold skipS; rw [he]; rfl
  have e2 : skipI x i sg = i := by unfold skipI; rw [he]; rfl
  rw [e1, e2] at h
  exact h
theorem skip_yes (x sg : Str) (tA tx tB ti t3 : Tok) (i : Int) (hx : x.length ≤ 1000) (hsg : sg.length ≤ 100) (hi : 0 ≤ i ∧ i ≤ 999) (he : oneOf x i sg = true) (o d : Addr) (rest : List (Addr × Obj)) (hod : @Ne Nat o d) (hr : ∀ p ∈ rest, p.1 ≠ d) :
    CallOf w mean mg mb 136 [.ref o, .str sg t3] 2 ((o, instObj 146 d) :: (d, numD w.params x i tA tx tB ti 2) :: rest) (fun h₀ L m s Q => ∀ t ti' h' tk', Fr h₀ L h' m → News h₀ L h' ((o, instObj 146 d) :: (d, numD w.params x (i + 1) tA tx tB ti' 2) :: rest) → Q (.str (Txt.item x i) t) { s with heap := h', toks := tk' }) := by
  have h := skip_is (w := w) (mean := mean) (mg := mg) (mb := mb) x sg tA tx tB ti t3 i hx hsg hi o d rest hod hr
  have e1 : skipS x i sg = Txt.item x i := by unfold skipS; rw [if_pos he]
  have e2 : skipI x i sg = i + 1 := by unfold skipI; rw [if_pos he]
  rw [e1, e2] at h
  exact h
end

section
example : True := by
  k_with_none
  k_with "k_all" => (first | assumption | (intro p9 hp9; (repeat' (first | (with_reducible rename (∀ p : Addr × Obj, p ∈ (_ : List (Addr × Obj)) → @LT.lt Nat _ p.1 _) => hq9; first | replace hq9 := ltN (hq9 p9 hp9) | clear hq9) | (with_reducible rename AllLt _ _ => hq9; first | replace hq9 := ltN (ktn_ltOf hq9 p9 hp9) | clear hq9) | (with_reducible rename (_ ∧ AllLt _ _) => hq9; obtain ⟨hz9, hq9⟩ := hq9))); (refine neN ?_); omega))
  k_with "k_ne" => ((refine neN ?_; (try dsimp only); first | with_reducible assumption | exact Ne.symm (by with_reducible assumption) | exact ne_above (by with_reducible assumption) (by k_mem) | exact Ne.symm (ne_above (by with_reducible assumption) (by k_mem)) | exact ne_above1 (by with_reducible assumption) (by k_mem) | exact Ne.symm (ne_above1 (by with_reducible assumption) (by k_mem))))
  k_with "room" => (first | exact room_at (by with_reducible assumption) rfl rfl | exact room_at0 (by with_reducible assumption) rfl | exact room_at1 (by with_reducible assumption) rfl rfl)
  k_with "units" => (exact units_at (by with_reducible assumption) rfl rfl)
  k_with "x.p" => (refine' Prem.mk ?_ ?_ ?_ ?_ ?_ ?_ ?_ ?_; rotate_right 8; (focus k_asm); (focus k_asm); (focus k_asm); (focus (k_asm)); (focus k_asm); (focus (first | exact rfl | assumption)); (focus ktr_room); (focus ktr_units))
  k_with "x.pn" => (refine' Prem.mk ?_ ?_ ?_ ?_ ?_ ?_ ?_ ?_; rotate_right 8; (focus k_asm); (focus k_asm); (focus k_asm); (focus (first | k_asm | exact news_rot1 (by k_asm) | exact news_rot2 (by k_asm))); (focus k_asm); (focus (first | exact rfl | assumption)); (focus ktr_room); (focus ktr_units))
  k_with "x.pr" => (refine' Prem.mk ?_ ?_ ?_ ?_ ?_ ?_ ?_ ?_; rotate_right 8; (focus k_asm); (focus k_asm); (focus k_asm); (focus (first | k_asm | exact rot1 (by k_asm) | exact rot2 (by k_asm) | exact rot3 (by k_asm))); (focus k_asm); (focus (first | exact rfl | assumption)); (focus ktr_room); (focus ktr_units))
  k_with "x.t" => (intro t9 h9 tk9 F9 N9; (try dsimp only); (try k_fold))
  k_with "x.2" => (intro x9 t91 t92 h9 tk9 F9 N9 l9; (try k_lt l9); (try dsimp only); (try k_fold))
  k_with "x.3" => (intro x9 t91 t92 t93 h9 tk9 F9 N9 l9; (try k_lt l9); (try dsimp only); (try k_fold))
  k_with "x.4" => (intro x9 t91 t92 t93 t94 h9 tk9 F9 N9 l9; (try k_lt l9); (try dsimp only); (try k_fold))
  k_with "x.tt" => (intro t9 t91 h9 tk9 F9 N9; (try dsimp only); (try k_fold))
  k_with "x.take" => (intro d9 a9 b9 t9 t91 t92 n9 h9 tk9 hd0 hd1 ha9 hb9 hb99 F9 N9; (have hb9' := And.intro hb9 hb99); (try dsimp only); (try k_fold))
  k_with "x.r" => (intro e9 t9 ws9 h9 tk9 G9 FG9 R9 U9; (try dsimp only); (try k_fold))
  k_with "x.c" => (intro h9 tk9 g9 T9 F9 N9 B9 X9 P9 D9; (try dsimp only); (try k_fold))
  k_with "eval Name" => ((k_here; (first | ((with_reducible show wpAny _ _ (eval (Expr.Name _ _) (compEnvC _ _ _ _)) _ _ _); k_dflt (first | (name_kind "local"; refine' LCgL.ld_own ?_ ?_ ?_ ?_ ?_ ?_ ?_ ?_; rotate_right 8; rotate_left 6; (focus (first | kernel_rfl! | rfl)); rotate_right 6; rotate_left 5; (focus (rfl)); rotate_right 5; rotate_left 5; (focus (decide)); rotate_right 5; (focus (k_asm)); (focus (k_mem)); (focus (assumption)); (focus (assumption))) | (name_kind "globalImplicit"; first | (refine' LCgL.ld_global ?_ ?_ ?_ ?_ ?_ ?_ ?_ ?_ ?_; rotate_right 9; rotate_left 7; (focus (first | kernel_rfl! | rfl)); rotate_right 7; (focus (k_asm)); (focus (k_asm)); (focus (k_asm)); (focus (k_is)); rotate_left 1; (focus (rfl)); rotate_right 1; rotate_left 1; (focus (rfl)); rotate_right 1; rotate_left 1; (focus (decide)); rotate_right 1) | (refine' LCgL.ld_built ?_ ?_ ?_ ?_ ?_ ?_ ?_ ?_ ?_ ?_ ?_ ?_; rotate_right 12; rotate_left 10; (focus (first | kernel_rfl! | rfl)); rotate_right 10; (focus (k_asm)); (focus (k_asm)); (focus (k_asm)); (focus (k_is)); (focus (boot_by_name)); (focus (decide)); rotate_left 1; (focus (rfl)); rotate_right 1; rotate_left 1; (focus (rfl)); rotate_right 1; rotate_left 1; (focus (rfl)); rotate_right 1; rotate_left 1; (focus (decide)); rotate_right 1))) ) | ((fail_if_success (with_reducible show wpAny _ _ (eval (Expr.Name _ _) (compEnvC _ _ _ _)) _ _ _)); k_dflt (first | (name_kind "local"; refine' nameX_L ?_ ?_ ?_ ?_ ?_; rotate_right 5; rotate_left 4; (focus (first | kernel_rfl! | rfl)); rotate_right 4; rotate_left 3; (focus (rfl)); rotate_right 3; (focus (k_asm)); (focus (rfl)); k_whole) | (name_kind "globalImplicit"; first | (refine' nameX_K ?_ ?_ ?_ ?_ ?_ ?_ ?_; rotate_right 7; rotate_left 6; (focus (first | kernel_rfl! | rfl)); rotate_right 6; (focus (k_asm)); (focus (k_asm)); (focus (k_asm)); rotate_left 2; (focus (rfl)); rotate_right 2; (focus (k_is)); k_whole) | (refine' nameX_B ?_ ?_ ?_ ?_ ?_ ?_ ?_ ?_ ?_; rotate_right 9; rotate_left 8; (focus (first | kernel_rfl! | rfl)); rotate_right 8; (focus (k_asm)); (focus (k_asm)); (focus (k_asm)); rotate_left 4; (focus (rfl)); rotate_right 4; (focus (k_is)); (focus (boot_fast)); (focus (decide)); k_whole)) | (name_kind "cell"; refine' nameX_C ?_ ?_ ?_ ?_ ?_ ?_ ?_; rotate_right 7; rotate_left 6; (focus (first | kernel_rfl! | rfl)); rotate_right 6; rotate_left 5; (focus (rfl)); rotate_right 5; (focus (k_asm)); (focus (rfl)); (focus (k_mem)); (focus (k_asm)); k_whole))))))
  k_with "fold" => ((fail_if_success (fail_if_success k_fold)); (refine (let qk := _; let ek := _; (?_ : wpAny _ _ _ qk ek _))))
  k_with "isTrue BoolOp" => (k_here; k_extra "fold")
  k_with "isTrue Compare" => (k_here; k_extra "fold")
  k_with "isTrue UnaryOp" => (k_here; k_extra "fold")
  k_with "eval Call" => (k_here; k_extra "fold")
  k_with "eval Compare" => (k_here; k_extra "fold")
  k_with "eval BinOp" => (k_here; k_extra "fold")
  k_with "eval Tuple" => (k_here; k_extra "fold")
  k_with "eval List" => (k_here; k_extra "fold")
  trivial
structure Wrap (P : Prop) : Prop where
  h : P
theorem stopHere {P : Prop} (h : Wrap P) : P := h.h
theorem digEnd_step {x : Str} {i : Int} (h : oneOf x i (Str.ofString "0123456789") = true) : digEnd x (i + 1) = digEnd x i := by
  unfold digEnd
  have hl := oneOf_lt h
  have e : ((x.length : Int) - i).toNat = ((x.length : Int) - (i + 1)).toNat + 1 := by omega
  rw [e, digN, if_pos h]
theorem digEnd_stop {x : Str} {i : Int} (h : oneOf x i (Str.ofString "0123456789") = false) : digEnd x i = i := by
  unfold digEnd
  cases ((x.length : Int) - i).toNat with
  | zero => rfl
  | succ n => rw [digN, h]; rfl
def DigInv (x : Str) (i j : Int) : Prop := i ≤ j ∧ 0 ≤ j ∧ (j ≤ x.length ∨ j = i) ∧ digEnd x j = digEnd x i
theorem digInv_step {x : Str} {i j : Int} (h : DigInv x i j) (ht : oneOf x j (Str.ofString "0123456789") = true) : DigInv x i (j + 1) := by
  obtain ⟨h1, h2, h3, h4⟩ := h
  have hl := oneOf_lt ht
  exact ⟨by omega, by omega, .inl (by omega), (digEnd_step ht).trans h4⟩
theorem dig_less {x : Str} {j : Int} (ht : oneOf x j (Str.ofString "0123456789") = true) : ((x.length : Int) - (j + 1)).toNat < ((x.length : Int) - j).toNat := by
  have hl := oneOf_lt ht
  omega
theorem digInv_b {x : Str} {i j : Int} (h : DigInv x i j) (hx : x.length ≤ 990) (hi : 0 ≤ i ∧ i ≤ 999) : 0 ≤ j ∧ j ≤ 999 := by
  obtain ⟨h1, h2, h3, h4⟩ := h
  omega
example : True := by
  k_with "call ref" => ((k_here; k_dflt (refine' callBy (isone_is _ _ _ _ _ _ _ _ _ ?_ ?_ ?_ _ _ _ ?_ ?_) ?_ ?_; rotate_right 2; (focus (walk_at "x.p")); (all_goals skip); rotate_right 5; rotate_left 3; (focus (k_mem)); rotate_right 3; rotate_left 3; (focus (k_mem)); rotate_right 3; (focus (omega)); (focus (decide +kernel)); (focus (omega)); walk_at "x.t")))
  trivial
example : True := by
  k_with "exec While" => ((refine stopHere ?_))
  trivial
set_option maxHeartbeats 4000000 in
theorem digits_is (x : Str) (tA tx tB ti : Tok) (i : Int) (hx : x.length ≤ 990) (hi : 0 ≤ i ∧ i ≤ 999) (o d : Addr) (rest : List (Addr × Obj)) (hod : @Ne Nat o d) (hr : ∀ p ∈ rest, p.1 ≠ d) :
    CallOf w mean mg mb 143 [.ref o] 2 ((o, instObj 146 d) :: (d, numD w.params x i tA tx tB ti 2) :: rest) (fun h₀ L m s Q => ∀ t ti' h' tk', Fr h₀ L h' m → News h₀ L h' ((o, instObj 146 d) :: (d, numD w.params x (digEnd x i) tA tx tB ti' 2) :: rest) → Q (.str (Txt.slice x (some i) (some (digEnd x i))) t) { s with heap := h', toks := tk' }) := by
  dsimp only [CallOf]
  intro dp un gd cn cs a9 ccd cl outer A₀ base h₀ L m s Q E B F X N T hk hd9 hu9 hret
  suffices hz : (laid.heap_1 = laid.heap_1 → PySem.Challenge.rw_nu0021_01 = PySem.Challenge.rw_nu0021_01 → _) from hz rfl rfl
  k_fill
  intro _ _
  refine wpAny_call ?_
  k_dflt (refine' code_def ?k1 ?k2 ?k3 ?k4 ?k5 ?kA ?kF ?kK ?k6 ?k7 ?k8 ?k9 ?kB ?_ ?c2 ?c3 ?c4 ?c5; (case kA => exact rfl); (case kF => exact rfl); (case kK => assumption); (case k1 => k_asm); (case k2 => k_asm); (case k3 => k_asm); (case k4 => k_asm); (case k5 => k_asm); (case k6 => k_is); (case k7 => k_is); (case k8 => ktr_room); (case k9 => first | exact BindsTo.of_eq rfl | exact binds_K (by k_in) rfl (by k_is) rfl rfl rfl); (case c5 => decide); (case kB => exact locs rfl); (case c2 => exact rfl); (case c3 => exact rfl); (case c4 => exact rfl); k_whole; intro g' L' h' FG' F' N' B' X' T'; (try dsimp only); (try k_lift B'); (try k_fold))
  k_steps
  refine Wrap.mk ?_
  with_unfolding_all refine' ksw_while (σ := Int × Tok) (fun c => (o, instObj 146 d) :: (d, numD w.params x c.1 tA tx tB c.2 2) :: rest) (fun _ => []) (fun _ => True) [] (fun c => DigInv x i c.1) (fun c => ((x.length : Int) - c.1).toNat) (i, ti) ?kwF ?kwN trivial (List.forall_mem_nil _) ?kwP ?_
  case kwF => assumption
  case kwN => assumption
  case kwP => exact ⟨by omega, by omega, .inr rfl, rfl⟩
  intro c u kH kTk _ hInv kFr kNews
  have hb := digInv_b hInv hx hi
  (try dsimp only at *)
  k_steps
  · have ht : oneOf x c.1 (Str.ofString "0123456789") = true := by assumption
    refine' ksw_end (c.1 + 1, _) ?wF ?wN ?wn ?wf ?wk ?wr ?wp ?wm
    case wF => assumption
    case wN => assumption
    case wn => intro p hp; exact hp
    case wf => trivial
    case wk => exact List.forall_mem_nil _
    case wr => ksw_same
    case wp => exact digInv_step hInv ht
    case wm => exact dig_less ht
  · have ht : oneOf x c.1 (Str.ofString "0123456789") = false := by assumption
    have e : digEnd x i = c.1 := hInv.2.2.2.symm.trans (digEnd_stop ht)
    rw [e] at hret
    refine' hret _ _ _ _ ?zf1 ?zn1
    case zf1 => assumption
    case zn1 => assumption
end

section
example : True := by
  k_with_none
  k_with "k_all" => (first | assumption | (intro p9 hp9; (repeat' (first | (with_reducible rename (∀ p : Addr × Obj, p ∈ (_ : List (Addr × Obj)) → @LT.lt Nat _ p.1 _) => hq9; first | replace hq9 := ltN (hq9 p9 hp9) | clear hq9) | (with_reducible rename AllLt _ _ => hq9; first | replace hq9 := ltN (ktn_ltOf hq9 p9 hp9) | clear hq9) | (with_reducible rename (_ ∧ AllLt _ _) => hq9; obtain ⟨hz9, hq9⟩ := hq9))); (refine neN ?_); omega))
  k_with "k_ne" => ((refine neN ?_; (try dsimp only); first | with_reducible assumption | exact Ne.symm (by with_reducible assumption) | exact ne_above (by with_reducible assumption) (by k_mem) | exact Ne.symm (ne_above (by with_reducible assumption) (by k_mem)) | exact ne_above1 (by with_reducible assumption) (by k_mem) | exact Ne.symm (ne_above1 (by with_reducible assumption) (by k_mem))))
  k_with "room" => (first | exact room_at (by with_reducible assumption) rfl rfl | exact room_at0 (by with_reducible assumption) rfl | exact room_at1 (by with_reducible assumption) rfl rfl)
  k_with "units" => (exact units_at (by with_reducible assumption) rfl rfl)
  k_with "x.p" => (refine' Prem.mk ?_ ?_ ?_ ?_ ?_ ?_ ?_ ?_; rotate_right 8; (focus k_asm); (focus k_asm); (focus k_asm); (focus (k_asm)); (focus k_asm); (focus (first | exact rfl | assumption)); (focus ktr_room); (focus ktr_units))
  k_with "x.pn" => (refine' Prem.mk ?_ ?_ ?_ ?_ ?_ ?_ ?_ ?_; rotate_right 8; (focus k_asm); (focus k_asm); (focus k_asm); (focus (first | k_asm | exact news_rot1 (by k_asm) | exact news_rot2 (by k_asm))); (focus k_asm); (focus (first | exact rfl | assumption)); (focus ktr_room); (focus ktr_units))
  k_with "x.pr" => (refine' Prem.mk ?_ ?_ ?_ ?_ ?_ ?_ ?_ ?_; rotate_right 8; (focus k_asm); (focus k_asm); (focus k_asm); (focus (first | k_asm | exact rot1 (by k_asm) | exact rot2 (by k_asm) | exact rot3 (by k_asm))); (focus k_asm); (focus (first | exact rfl | assumption)); (focus ktr_room); (focus ktr_units))
  k_with "x.t" => (intro t9 h9 tk9 F9 N9; (try dsimp only); (try k_fold))
  k_with "x.2" => (intro x9 t91 t92 h9 tk9 F9 N9 l9; (try k_lt l9); (try dsimp only); (try k_fold))
  k_with "x.3" => (intro x9 t91 t92 t93 h9 tk9 F9 N9 l9; (try k_lt l9); (try dsimp only); (try k_fold))
  k_with "x.4" => (intro x9 t91 t92 t93 t94 h9 tk9 F9 N9 l9; (try k_lt l9); (try dsimp only); (try k_fold))
  k_with "x.tt" => (intro t9 t91 h9 tk9 F9 N9; (try dsimp only); (try k_fold))
  k_with "x.take" => (intro d9 a9 b9 t9 t91 t92 n9 h9 tk9 hd0 hd1 ha9 hb9 hb99 F9 N9; (have hb9' := And.intro hb9 hb99); (try dsimp only); (try k_fold))
  k_with "x.r" => (intro e9 t9 ws9 h9 tk9 G9 FG9 R9 U9; (try dsimp only); (try k_fold))
  k_with "x.c" => (intro h9 tk9 g9 T9 F9 N9 B9 X9 P9 D9; (try dsimp only); (try k_fold))
  k_with "eval Name" => ((k_here; (first | ((with_reducible show wpAny _ _ (eval (Expr.Name _ _) (compEnvC _ _ _ _)) _ _ _); k_dflt (first | (name_kind "local"; refine' LCgL.ld_own ?_ ?_ ?_ ?_ ?_ ?_ ?_ ?_; rotate_right 8; rotate_left 6; (focus (first | kernel_rfl! | rfl)); rotate_right 6; rotate_left 5; (focus (rfl)); rotate_right 5; rotate_left 5; (focus (decide)); rotate_right 5; (focus (k_asm)); (focus (k_mem)); (focus (assumption)); (focus (assumption))) | (name_kind "globalImplicit"; first | (refine' LCgL.ld_global ?_ ?_ ?_ ?_ ?_ ?_ ?_ ?_ ?_; rotate_right 9; rotate_left 7; (focus (first | kernel_rfl! | rfl)); rotate_right 7; (focus (k_asm)); (focus (k_asm)); (focus (k_asm)); (focus (k_is)); rotate_left 1; (focus (rfl)); rotate_right 1; rotate_left 1; (focus (rfl)); rotate_right 1; rotate_left 1; (focus (decide)); rotate_right 1) | (refine' LCgL.ld_built ?_ ?_ ?_ ?_ ?_ ?_ ?_ ?_ ?_ ?_ ?_ ?_; rotate_right 12; rotate_left 10; (focus (first | kernel_rfl! | rfl)); rotate_right 10; (focus (k_asm)); (focus (k_asm)); (focus (k_asm)); (focus (k_is)); (focus (boot_by_name)); (focus (decide)); rotate_left 1; (focus (rfl)); rotate_right 1; rotate_left 1; (focus (rfl)); rotate_right 1; rotate_left 1; (focus (rfl)); rotate_right 1; rotate_left 1; (focus (decide)); rotate_right 1))) ) | ((fail_if_success (with_reducible show wpAny _ _ (eval (Expr.Name _ _) (compEnvC _ _ _ _)) _ _ _)); k_dflt (first | (name_kind "local"; refine' nameX_L ?_ ?_ ?_ ?_ ?_; rotate_right 5; rotate_left 4; (focus (first | kernel_rfl! | rfl)); rotate_right 4; rotate_left 3; (focus (rfl)); rotate_right 3; (focus (k_asm)); (focus (rfl)); k_whole) | (name_kind "globalImplicit"; first | (refine' nameX_K ?_ ?_ ?_ ?_ ?_ ?_ ?_; rotate_right 7; rotate_left 6; (focus (first | kernel_rfl! | rfl)); rotate_right 6; (focus (k_asm)); (focus (k_asm)); (focus (k_asm)); rotate_left 2; (focus (rfl)); rotate_right 2; (focus (k_is)); k_whole) | (refine' nameX_B ?_ ?_ ?_ ?_ ?_ ?_ ?_ ?_ ?_; rotate_right 9; rotate_left 8; (focus (first | kernel_rfl! | rfl)); rotate_right 8; (focus (k_asm)); (focus (k_asm)); (focus (k_asm)); rotate_left 4; (focus (rfl)); rotate_right 4; (focus (k_is)); (focus (boot_fast)); (focus (decide)); k_whole)) | (name_kind "cell"; refine' nameX_C ?_ ?_ ?_ ?_ ?_ ?_ ?_; rotate_right 7; rotate_left 6; (focus (first | kernel_rfl! | rfl)); rotate_right 6; rotate_left 5; (focus (rfl)); rotate_right 5; (focus (k_asm)); (focus (rfl)); (focus (k_mem)); (focus (k_asm)); k_whole))))))
  k_with "fold" => ((fail_if_success (fail_if_success k_fold)); (refine (let qk := _; let ek := _; (?_ : wpAny _ _ _ qk ek _))))
  k_with "isTrue BoolOp" => (k_here; k_extra "fold")
  k_with "isTrue Compare" => (k_here; k_extra "fold")
  k_with "isTrue UnaryOp" => (k_here; k_extra "fold")
  k_with "eval Call" => (k_here; k_extra "fold")
  k_with "eval Compare" => (k_here; k_extra "fold")
  k_with "eval BinOp" => (k_here; k_extra "fold")
  k_with "eval Tuple" => (k_here; k_extra "fold")
  k_with "eval List" => (k_here; k_extra "fold")
  trivial
theorem wholeN_snoc (l : List Nat) (c : Nat) : ∀ a, wholeN (l ++ [c]) a = wholeN l a * 10 + ((c : Int) - 48) := by
  induction l with
  | nil => intro a; rfl
  | cons d r ih => intro a; exact ih _
theorem find_dig {c : Nat} (h : 48 ≤ c ∧ c ≤ 57) : Txt.find (Str.ofString "0123456789") ⟨#[c]⟩ = (c : Int) - 48 := by
  obtain ⟨k, rfl⟩ : ∃ k, c = 48 + k := ⟨c - 48, by omega⟩
  have hk : k < 10 := by omega
  have q : ∀ k : Fin 10, Txt.find (Str.ofString "0123456789") ⟨#[48 + (k : Nat)]⟩ = ((k : Nat) : Int) := by decide +kernel
  have := q ⟨k, hk⟩
  dsimp only at this
  rw [this]; omega
theorem whole_bound (l : List Nat) (h : ∀ c ∈ l, 48 ≤ c ∧ c ≤ 57) : ∀ a : Int, 0 ≤ a → 0 ≤ wholeN l a ∧ wholeN l a < (a + 1) * 10 ^ l.length := by
  induction l with
  | nil => intro a ha; simp [wholeN]; omega
  | cons d r ih =>
    intro a ha
    have hd := h d (List.mem_cons_self)
    have := ih (fun c hc => h c (List.mem_cons_of_mem _ hc)) (a * 10 + ((d : Int) - 48)) (by omega)
    refine ⟨this.1, Int.lt_of_lt_of_le this.2 ?_⟩
    rw [List.length_cons, Int.pow_succ, Int.mul_comm (10 ^ r.length) 10, ← Int.mul_assoc]
    exact Int.mul_le_mul_of_nonneg_right (by omega) (Int.pow_nonneg (by decide))
abbrev wMap (x : Str) (t1 : Tok) (n : Int) (u : Tok) (v : Option Value) : Str → Option Value := fun y => if y = Str.ofString "number" then some (.int n u) else if y = Str.ofString "digit" then v else List.lookup y [(Str.ofString "digits", .str x t1)]
theorem wMap_start (x : Str) (t1 u : Tok) : (fun y => if y = Str.ofString "number" then some (Value.int 0 u) else List.lookup y [(Str.ofString "digits", Value.str x t1)]) = wMap x t1 0 u none := by
  funext y
  unfold wMap
  by_cases h : y = Str.ofString "number"
  · rw [if_pos h, if_pos h]
  · rw [if_neg h, if_neg h]
    by_cases h2 : y = Str.ofString "digit"
    · subst h2; rw [if_pos rfl]; rfl
    · rw [if_neg h2]
theorem wMap_turn (x : Str) (t1 u u' : Tok) (n n' : Int) (v v' : Option Value) : (fun y => if y = Str.ofString "number" then some (Value.int n' u') else if y = Str.ofString "digit" then v' else wMap x t1 n u v y) = wMap x t1 n' u' v' := by
  funext y
  unfold wMap
  by_cases h : y = Str.ofString "number"
  · simp only [if_pos h]
  · simp only [if_neg h]
    by_cases h2 : y = Str.ofString "digit"
    · simp only [if_pos h2]
    · simp only [if_neg h2]
example : True := by
  k_with "exec For" => ((refine stopHere ?_))
  trivial
set_option maxHeartbeats 4000000 in
theorem whole_is (x : Str) (t1 : Tok) (hx : x.length ≤ 12) (hd : allDig x) (news : List (Addr × Obj)) :
    CallOf w mean mg mb 157 [.str x t1] 1 news (fun h₀ L m s Q => CbRet h₀ L m news s Q fun t => .int (wholeS x) t) := by
  dsimp only [CallOf]
  intro dp un gd cn cs a9 ccd cl outer A₀ base h₀ L m s Q E B F X N T hk hd9 hu9 hret
  suffices hz : (laid.heap_1 = laid.heap_1 → PySem.Challenge.rw_nu0021_01 = PySem.Challenge.rw_nu0021_01 → _) from hz rfl rfl
  k_fill
  intro _ _
  refine wpAny_call ?_
  k_dflt (refine' code_def ?k1 ?k2 ?k3 ?k4 ?k5 ?kA ?kF ?kK ?k6 ?k7 ?k8 ?k9 ?kB ?_ ?c2 ?c3 ?c4 ?c5; (case kA => exact rfl); (case kF => exact rfl); (case kK => assumption); (case k1 => k_asm); (case k2 => k_asm); (case k3 => k_asm); (case k4 => k_asm); (case k5 => k_asm); (case k6 => k_is); (case k7 => k_is); (case k8 => ktr_room); (case k9 => first | exact BindsTo.of_eq rfl | exact binds_K (by k_in) rfl (by k_is) rfl rfl rfl); (case c5 => decide); (case kB => exact locs rfl); (case c2 => exact rfl); (case c3 => exact rfl); (case c4 => exact rfl); k_whole; intro g' L' h' FG' F' N' B' X' T'; (try dsimp only); (try k_lift B'); (try k_fold))
  k_steps
  refine Wrap.mk ?_
  refine For_invV g' rfl rfl ?_
  k_steps
  refine str_inv (fun i m => ∃ (u : Tok) (v : Option Value), m = wMap x t1 (wholeN (x.cps.toList.take i) 0) u v) rfl (by assumption) (by assumption) ?_ ?_ ?_
  · exact ⟨_, none, wMap_start x t1 _⟩
  · rintro i c u m₁ h tk own hc ⟨u', v, rfl⟩ F1 N1
    have hlt : i < x.cps.size := by
      rcases Nat.lt_or_ge i x.cps.size with q | q
      · exact q
      · rw [Array.getElem?_eq_none q] at hc; cases hc
    have hmem : c ∈ x.cps.toList := by
      rw [Array.mem_toList_iff]
      exact Array.mem_of_getElem? hc
    have hcd := hd c hmem
    have hf := find_dig hcd
    have hl : x.cps.toList.take (i + 1) = x.cps.toList.take i ++ [c] := by
      rw [List.take_add_one, Array.getElem?_toList, hc]; rfl
    (try dsimp only at *)
    k_steps
    · exfalso
      have hz : Txt.find (Str.ofString "0123456789") { cps := #[c] } = -1 := by assumption
      rw [hf] at hz
      omega
    · refine' InvEnd.intro ?iF ?iN (fun p hp => hp) ⟨_, _, ?ie⟩
      case iF => assumption
      case iN => assumption
      case ie =>
        rw [hl, wholeN_snoc, ← hf]
        exact wMap_turn x t1 _ _ _ _ _ _
  · rintro m₁ h tk ⟨u', v, rfl⟩ F1 N1
    k_steps
    refine cb_retI hret ?_ (by assumption) (by assumption)
    unfold wholeS
    rw [List.take_of_length_le (by simp)]
end

section
example : True := by
  k_with_none
  k_with "k_all" => (first | assumption | (intro p9 hp9; (repeat' (first | (with_reducible rename (∀ p : Addr × Obj, p ∈ (_ : List (Addr × Obj)) → @LT.lt Nat _ p.1 _) => hq9; first | replace hq9 := ltN (hq9 p9 hp9) | clear hq9) | (with_reducible rename AllLt _ _ => hq9; first | replace hq9 := ltN (ktn_ltOf hq9 p9 hp9) | clear hq9) | (with_reducible rename (_ ∧ AllLt _ _) => hq9; obtain ⟨hz9, hq9⟩ := hq9))); (refine neN ?_); omega))
  k_with "k_ne" => ((refine neN ?_; (try dsimp only); first | with_reducible assumption | exact Ne.symm (by with_reducible assumption) | exact ne_above (by with_reducible assumption) (by k_mem) | exact Ne.symm (ne_above (by with_reducible assumption) (by k_mem)) | exact ne_above1 (by with_reducible assumption) (by k_mem) | exact Ne.symm (ne_above1 (by with_reducible assumption) (by k_mem))))
  k_with "room" => (first | exact room_at (by with_reducible assumption) rfl rfl | exact room_at0 (by with_reducible assumption) rfl | exact room_at1 (by with_reducible assumption) rfl rfl)
  k_with "units" => (exact units_at (by with_reducible assumption) rfl rfl)
  k_with "x.p" => (refine' Prem.mk ?_ ?_ ?_ ?_ ?_ ?_ ?_ ?_; rotate_right 8; (focus k_asm); (focus k_asm); (focus k_asm); (focus (k_asm)); (focus k_asm); (focus (first | exact rfl | assumption)); (focus ktr_room); (focus ktr_units))
  k_with "x.pn" => (refine' Prem.mk ?_ ?_ ?_ ?_ ?_ ?_ ?_ ?_; rotate_right 8; (focus k_asm); (focus k_asm); (focus k_asm); (focus (first | k_asm | exact news_rot1 (by k_asm) | exact news_rot2 (by k_asm))); (focus k_asm); (focus (first | exact rfl | assumption)); (focus ktr_room); (focus ktr_units))
  k_with "x.pr" => (refine' Prem.mk ?_ ?_ ?_ ?_ ?_ ?_ ?_ ?_; rotate_right 8; (focus k_asm); (focus k_asm); (focus k_asm); (focus (first | k_asm | exact rot1 (by k_asm) | exact rot2 (by k_asm) | exact rot3 (by k_asm))); (focus k_asm); (focus (first | exact rfl | assumption)); (focus ktr_room); (focus ktr_units))
  k_with "x.t" => (intro t9 h9 tk9 F9 N9; (try dsimp only); (try k_fold))
  k_with "x.2" => (intro x9 t91 t92 h9 tk9 F9 N9 l9; (try k_lt l9); (try dsimp only); (try k_fold))
  k_with "x.3" => (intro x9 t91 t92 t93 h9 tk9 F9 N9 l9; (try k_lt l9); (try dsimp only); (try k_fold))
  k_with "x.4" => (intro x9 t91 t92 t93 t94 h9 tk9 F9 N9 l9; (try k_lt l9); (try dsimp only); (try k_fold))
  k_with "x.tt" => (intro t9 t91 h9 tk9 F9 N9; (try dsimp only); (try k_fold))
  k_with "x.take" => (intro d9 a9 b9 t9 t91 t92 n9 h9 tk9 hd0 hd1 ha9 hb9 hb99 F9 N9; (have hb9' := And.intro hb9 hb99); (try dsimp only); (try k_fold))
  k_with "x.r" => (intro e9 t9 ws9 h9 tk9 G9 FG9 R9 U9; (try dsimp only); (try k_fold))
  k_with "x.c" => (intro h9 tk9 g9 T9 F9 N9 B9 X9 P9 D9; (try dsimp only); (try k_fold))
  k_with "eval Name" => ((k_here; (first | ((with_reducible show wpAny _ _ (eval (Expr.Name _ _) (compEnvC _ _ _ _)) _ _ _); k_dflt (first | (name_kind "local"; refine' LCgL.ld_own ?_ ?_ ?_ ?_ ?_ ?_ ?_ ?_; rotate_right 8; rotate_left 6; (focus (first | kernel_rfl! | rfl)); rotate_right 6; rotate_left 5; (focus (rfl)); rotate_right 5; rotate_left 5; (focus (decide)); rotate_right 5; (focus (k_asm)); (focus (k_mem)); (focus (assumption)); (focus (assumption))) | (name_kind "globalImplicit"; first | (refine' LCgL.ld_global ?_ ?_ ?_ ?_ ?_ ?_ ?_ ?_ ?_; rotate_right 9; rotate_left 7; (focus (first | kernel_rfl! | rfl)); rotate_right 7; (focus (k_asm)); (focus (k_asm)); (focus (k_asm)); (focus (k_is)); rotate_left 1; (focus (rfl)); rotate_right 1; rotate_left 1; (focus (rfl)); rotate_right 1; rotate_left 1; (focus (decide)); rotate_right 1) | (refine' LCgL.ld_built ?_ ?_ ?_ ?_ ?_ ?_ ?_ ?_ ?_ ?_ ?_ ?_; rotate_right 12; rotate_left 10; (focus (first | kernel_rfl! | rfl)); rotate_right 10; (focus (k_asm)); (focus (k_asm)); (focus (k_asm)); (focus (k_is)); (focus (boot_by_name)); (focus (decide)); rotate_left 1; (focus (rfl)); rotate_right 1; rotate_left 1; (focus (rfl)); rotate_right 1; rotate_left 1; (focus (rfl)); rotate_right 1; rotate_left 1; (focus (decide)); rotate_right 1))) ) | ((fail_if_success (with_reducible show wpAny _ _ (eval (Expr.Name _ _) (compEnvC _ _ _ _)) _ _ _)); k_dflt (first | (name_kind "local"; refine' nameX_L ?_ ?_ ?_ ?_ ?_; rotate_right 5; rotate_left 4; (focus (first | kernel_rfl! | rfl)); rotate_right 4; rotate_left 3; (focus (rfl)); rotate_right 3; (focus (k_asm)); (focus (rfl)); k_whole) | (name_kind "globalImplicit"; first | (refine' nameX_K ?_ ?_ ?_ ?_ ?_ ?_ ?_; rotate_right 7; rotate_left 6; (focus (first | kernel_rfl! | rfl)); rotate_right 6; (focus (k_asm)); (focus (k_asm)); (focus (k_asm)); rotate_left 2; (focus (rfl)); rotate_right 2; (focus (k_is)); k_whole) | (refine' nameX_B ?_ ?_ ?_ ?_ ?_ ?_ ?_ ?_ ?_; rotate_right 9; rotate_left 8; (focus (first | kernel_rfl! | rfl)); rotate_right 8; (focus (k_asm)); (focus (k_asm)); (focus (k_asm)); rotate_left 4; (focus (rfl)); rotate_right 4; (focus (k_is)); (focus (boot_fast)); (focus (decide)); k_whole)) | (name_kind "cell"; refine' nameX_C ?_ ?_ ?_ ?_ ?_ ?_ ?_; rotate_right 7; rotate_left 6; (focus (first | kernel_rfl! | rfl)); rotate_right 6; rotate_left 5; (focus (rfl)); rotate_right 5; (focus (k_asm)); (focus (rfl)); (focus (k_mem)); (focus (k_asm)); k_whole))))))
  k_with "fold" => ((fail_if_success (fail_if_success k_fold)); (refine (let qk := _; let ek := _; (?_ : wpAny _ _ _ qk ek _))))
  k_with "isTrue BoolOp" => (k_here; k_extra "fold")
  k_with "isTrue Compare" => (k_here; k_extra "fold")
  k_with "isTrue UnaryOp" => (k_here; k_extra "fold")
  k_with "eval Call" => (k_here; k_extra "fold")
  k_with "eval Compare" => (k_here; k_extra "fold")
  k_with "eval BinOp" => (k_here; k_extra "fold")
  k_with "eval Tuple" => (k_here; k_extra "fold")
  k_with "eval List" => (k_here; k_extra "fold")
  trivial
example : True := by
  k_with "call ref" => ((k_here; k_dflt (refine' callBy (skip_no _ _ _ _ _ _ _ _ ?_ ?_ ?_ ?_ _ _ _ ?_ ?_) ?_ ?_; rotate_right 2; (focus (walk_at "x.p")); (all_goals skip); rotate_right 6; (focus (omega)); (focus (decide +kernel)); (focus (omega)); (focus (k_asm)); (focus (k_asm)); (focus (k_asm)); walk_at "x.tt")))
  trivial
set_option maxHeartbeats 4000000 in
theorem readexp_is (x : Str) (tA tx tB ti : Tok) (i : Int) (hx : x.length ≤ 990) (hi : 0 ≤ i ∧ i ≤ 999) (he : oneOf x i (Str.ofString "eE") = false) (o d : Addr) (rest : List (Addr × Obj)) (hod : @Ne Nat o d) (hr : ∀ p ∈ rest, p.1 ≠ d) :
    CallOf w mean mg mb 164 [.ref o] 3 ((o, instObj 146 d) :: (d, numD w.params x i tA tx tB ti 2) :: rest) (fun h₀ L m s Q => ∀ t ti' h' tk', Fr h₀ L h' m → News h₀ L h' ((o, instObj 146 d) :: (d, numD w.params x i tA tx tB ti' 2) :: rest) → Q (.int 0 t) { s with heap := h', toks := tk' }) := by
  dsimp only [CallOf]
  intro dp un gd cn cs a9 ccd cl outer A₀ base h₀ L m s Q E B F X N T hk hd9 hu9 hret
  suffices hz : (laid.heap_1 = laid.heap_1 → PySem.Challenge.rw_nu0021_01 = PySem.Challenge.rw_nu0021_01 → _) from hz rfl rfl
  k_fill
  intro _ _
  refine wpAny_call ?_
  k_dflt (refine' code_def ?k1 ?k2 ?k3 ?k4 ?k5 ?kA ?kF ?kK ?k6 ?k7 ?k8 ?k9 ?kB ?_ ?c2 ?c3 ?c4 ?c5; (case kA => exact rfl); (case kF => exact rfl); (case kK => assumption); (case k1 => k_asm); (case k2 => k_asm); (case k3 => k_asm); (case k4 => k_asm); (case k5 => k_asm); (case k6 => k_is); (case k7 => k_is); (case k8 => ktr_room); (case k9 => first | exact BindsTo.of_eq rfl | exact binds_K (by k_in) rfl (by k_is) rfl rfl rfl); (case c5 => decide); (case kB => exact locs rfl); (case c2 => exact rfl); (case c3 => exact rfl); (case c4 => exact rfl); k_whole; intro g' L' h' FG' F' N' B' X' T'; (try dsimp only); (try k_lift B'); (try k_fold))
  k_steps
  refine' hret _ _ _ _ ?zf1 ?zn1
  case zf1 => assumption
  case zn1 => assumption
end

section
example : True := by
  k_with_none
  k_with "k_all" => (first | assumption | (intro p9 hp9; (repeat' (first | (with_reducible rename (∀ p : Addr × Obj, p ∈ (_ : List (Addr × Obj)) → @LT.lt Nat _ p.1 _) => hq9; first | replace hq9 := ltN (hq9 p9 hp9) | clear hq9) | (with_reducible rename AllLt _ _ => hq9; first | replace hq9 := ltN (ktn_ltOf hq9 p9 hp9) | clear hq9) | (with_reducible rename (_ ∧ AllLt _ _) => hq9; obtain ⟨hz9, hq9⟩ := hq9))); (refine neN ?_); omega))
  k_with "k_ne" => ((refine neN ?_; (try dsimp only); first | with_reducible assumption | exact Ne.symm (by with_reducible assumption) | exact ne_above (by with_reducible assumption) (by k_mem) | exact Ne.symm (ne_above (by with_reducible assumption) (by k_mem)) | exact ne_above1 (by with_reducible assumption) (by k_mem) | exact Ne.symm (ne_above1 (by with_reducible assumption) (by k_mem))))
  k_with "room" => (first | exact room_at (by with_reducible assumption) rfl rfl | exact room_at0 (by with_reducible assumption) rfl | exact room_at1 (by with_reducible assumption) rfl rfl)
  k_with "units" => (exact units_at (by with_reducible assumption) rfl rfl)
  k_with "x.p" => (refine' Prem.mk ?_ ?_ ?_ ?_ ?_ ?_ ?_ ?_; rotate_right 8; (focus k_asm); (focus k_asm); (focus k_asm); (focus (k_asm)); (focus k_asm); (focus (first | exact rfl | assumption)); (focus ktr_room); (focus ktr_units))
  k_with "x.pn" => (refine' Prem.mk ?_ ?_ ?_ ?_ ?_ ?_ ?_ ?_; rotate_right 8; (focus k_asm); (focus k_asm); (focus k_asm); (focus (first | k_asm | exact news_rot1 (by k_asm) | exact news_rot2 (by k_asm))); (focus k_asm); (focus (first | exact rfl | assumption)); (focus ktr_room); (focus ktr_units))
  k_with "x.pr" => (refine' Prem.mk ?_ ?_ ?_ ?_ ?_ ?_ ?_ ?_; rotate_right 8; (focus k_asm); (focus k_asm); (focus k_asm); (focus (first | k_asm | exact rot1 (by k_asm) | exact rot2 (by k_asm) | exact rot3 (by k_asm))); (focus k_asm); (focus (first | exact rfl | assumption)); (focus ktr_room); (focus ktr_units))
  k_with "x.t" => (intro t9 h9 tk9 F9 N9; (try dsimp only); (try k_fold))
  k_with "x.2" => (intro x9 t91 t92 h9 tk9 F9 N9 l9; (try k_lt l9); (try dsimp only); (try k_fold))
  k_with "x.3" => (intro x9 t91 t92 t93 h9 tk9 F9 N9 l9; (try k_lt l9); (try dsimp only); (try k_fold))
  k_with "x.4" => (intro x9 t91 t92 t93 t94 h9 tk9 F9 N9 l9; (try k_lt l9); (try dsimp only); (try k_fold))
  k_with "x.tt" => (intro t9 t91 h9 tk9 F9 N9; (try dsimp only); (try k_fold))
  k_with "x.take" => (intro d9 a9 b9 t9 t91 t92 n9 h9 tk9 hd0 hd1 ha9 hb9 hb99 F9 N9; (have hb9' := And.intro hb9 hb99); (try dsimp only); (try k_fold))
  k_with "x.r" => (intro e9 t9 ws9 h9 tk9 G9 FG9 R9 U9; (try dsimp only); (try k_fold))
  k_with "x.c" => (intro h9 tk9 g9 T9 F9 N9 B9 X9 P9 D9; (try dsimp only); (try k_fold))
  k_with "eval Name" => ((k_here; (first | ((with_reducible show wpAny _ _ (eval (Expr.Name _ _) (compEnvC _ _ _ _)) _ _ _); k_dflt (first | (name_kind "local"; refine' LCgL.ld_own ?_ ?_ ?_ ?_ ?_ ?_ ?_ ?_; rotate_right 8; rotate_left 6; (focus (first | kernel_rfl! | rfl)); rotate_right 6; rotate_left 5; (focus (rfl)); rotate_right 5; rotate_left 5; (focus (decide)); rotate_right 5; (focus (k_asm)); (focus (k_mem)); (focus (assumption)); (focus (assumption))) | (name_kind "globalImplicit"; first | (refine' LCgL.ld_global ?_ ?_ ?_ ?_ ?_ ?_ ?_ ?_ ?_; rotate_right 9; rotate_left 7; (focus (first | kernel_rfl! | rfl)); rotate_right 7; (focus (k_asm)); (focus (k_asm)); (focus (k_asm)); (focus (k_is)); rotate_left 1; (focus (rfl)); rotate_right 1; rotate_left 1; (focus (rfl)); rotate_right 1; rotate_left 1; (focus (decide)); rotate_right 1) | (refine' LCgL.ld_built ?_ ?_ ?_ ?_ ?_ ?_ ?_ ?_ ?_ ?_ ?_ ?_; rotate_right 12; rotate_left 10; (focus (first | kernel_rfl! | rfl)); rotate_right 10; (focus (k_asm)); (focus (k_asm)); (focus (k_asm)); (focus (k_is)); (focus (boot_by_name)); (focus (decide)); rotate_left 1; (focus (rfl)); rotate_right 1; rotate_left 1; (focus (rfl)); rotate_right 1; rotate_left 1; (focus (rfl)); rotate_right 1; rotate_left 1; (focus (decide)); rotate_right 1))) ) | ((fail_if_success (with_reducible show wpAny _ _ (eval (Expr.Name _ _) (compEnvC _ _ _ _)) _ _ _)); k_dflt (first | (name_kind "local"; refine' nameX_L ?_ ?_ ?_ ?_ ?_; rotate_right 5; rotate_left 4; (focus (first | kernel_rfl! | rfl)); rotate_right 4; rotate_left 3; (focus (rfl)); rotate_right 3; (focus (k_asm)); (focus (rfl)); k_whole) | (name_kind "globalImplicit"; first | (refine' nameX_K ?_ ?_ ?_ ?_ ?_ ?_ ?_; rotate_right 7; rotate_left 6; (focus (first | kernel_rfl! | rfl)); rotate_right 6; (focus (k_asm)); (focus (k_asm)); (focus (k_asm)); rotate_left 2; (focus (rfl)); rotate_right 2; (focus (k_is)); k_whole) | (refine' nameX_B ?_ ?_ ?_ ?_ ?_ ?_ ?_ ?_ ?_; rotate_right 9; rotate_left 8; (focus (first | kernel_rfl! | rfl)); rotate_right 8; (focus (k_asm)); (focus (k_asm)); (focus (k_asm)); rotate_left 4; (focus (rfl)); rotate_right 4; (focus (k_is)); (focus (boot_fast)); (focus (decide)); k_whole)) | (name_kind "cell"; refine' nameX_C ?_ ?_ ?_ ?_ ?_ ?_ ?_; rotate_right 7; rotate_left 6; (focus (first | kernel_rfl! | rfl)); rotate_right 6; rotate_left 5; (focus (rfl)); rotate_right 5; (focus (k_asm)); (focus (rfl)); (focus (k_mem)); (focus (k_asm)); k_whole))))))
  k_with "fold" => ((fail_if_success (fail_if_success k_fold)); (refine (let qk := _; let ek := _; (?_ : wpAny _ _ _ qk ek _))))
  k_with "isTrue BoolOp" => (k_here; k_extra "fold")
  k_with "isTrue Compare" => (k_here; k_extra "fold")
  k_with "isTrue UnaryOp" => (k_here; k_extra "fold")
  k_with "eval Call" => (k_here; k_extra "fold")
  k_with "eval Compare" => (k_here; k_extra "fold")
  k_with "eval BinOp" => (k_here; k_extra "fold")
  k_with "eval Tuple" => (k_here; k_extra "fold")
  k_with "eval List" => (k_here; k_extra "fold")
  trivial
example : True := by
  k_with "call ref" => ((k_here; k_dflt (first | (refine' call_cls ?_ ?_ ?_ ?_ ?_ ?_ ?_; rotate_right 7; (focus (k_asm)); (focus (k_asm)); (focus (k_asm)); (focus (k_is)); (focus (k_is)); (focus (k_is)); k_whole; intro x' d' h' F' N' l1 l2; (try k_lt l1); (try k_lt2 l2); (try k_sweep); refine' code_def ?_ ?_ ?_ ?_ ?_ ?_ ?_ ?_ ?_ ?_ ?_ ?_ ?_ ?_ ?_ ?_ ?_ ?_; rotate_right 18; rotate_left 5; (focus (exact rfl)); rotate_right 5; rotate_left 5; (focus (exact rfl)); rotate_right 5; rotate_left 5; (focus (first | exact rfl | assumption)); rotate_right 5; (focus (k_asm)); (focus (k_asm)); (focus (k_asm)); (focus (k_asm)); (focus (k_asm)); (focus (k_is)); (focus (k_is)); (focus (ktr_room)); (focus (first | exact BindsTo.of_eq rfl | exact binds_K (by k_in) rfl (by k_is) rfl rfl rfl)); rotate_left 5; (focus (decide)); rotate_right 5; (focus (exact locs rfl)); rotate_left 1; (focus (exact rfl)); rotate_right 1; rotate_left 1; (focus (exact rfl)); rotate_right 1; rotate_left 1; (focus (exact rfl)); rotate_right 1; k_whole; intro g' L' h' FG' F' N' B' X' T'; (try dsimp only); (try k_lift B'); (try k_fold)) | (refine' call_meth ?_ ?_ ?_; rotate_right 3; (focus (k_asm)); (focus (k_mem)); k_whole; refine' code_def ?_ ?_ ?_ ?_ ?_ ?_ ?_ ?_ ?_ ?_ ?_ ?_ ?_ ?_ ?_ ?_ ?_ ?_; rotate_right 18; rotate_left 5; (focus (exact rfl)); rotate_right 5; rotate_left 5; (focus (exact rfl)); rotate_right 5; rotate_left 5; (focus (first | exact rfl | assumption)); rotate_right 5; (focus (k_asm)); (focus (k_asm)); (focus (k_asm)); (focus (k_asm)); (focus (k_asm)); (focus (k_is)); (focus (k_is)); (focus (ktr_room)); (focus (first | exact BindsTo.of_eq rfl | exact binds_K (by k_in) rfl (by k_is) rfl rfl rfl)); rotate_left 5; (focus (decide)); rotate_right 5; (focus (exact locs rfl)); rotate_left 1; (focus (exact rfl)); rotate_right 1; rotate_left 1; (focus (exact rfl)); rotate_right 1; rotate_left 1; (focus (exact rfl)); rotate_right 1; k_whole; intro g' L' h' FG' F' N' B' X' T'; (try dsimp only); (try k_lift B'); (try k_fold)) | (refine wpAny_call ?_; refine' code_def ?_ ?_ ?_ ?_ ?_ ?_ ?_ ?_ ?_ ?_ ?_ ?_ ?_ ?_ ?_ ?_ ?_ ?_; rotate_right 18; rotate_left 5; (focus (exact rfl)); rotate_right 5; rotate_left 5; (focus (exact rfl)); rotate_right 5; rotate_left 5; (focus (first | exact rfl | assumption)); rotate_right 5; (focus (k_asm)); (focus (k_asm)); (focus (k_asm)); (focus (k_asm)); (focus (k_asm)); (focus (k_is)); (focus (k_is)); (focus (ktr_room)); (focus (first | exact BindsTo.of_eq rfl | exact binds_K (by k_in) rfl (by k_is) rfl rfl rfl)); rotate_left 5; (focus (decide)); rotate_right 5; (focus (exact locs rfl)); rotate_left 1; (focus (exact rfl)); rotate_right 1; rotate_left 1; (focus (exact rfl)); rotate_right 1; rotate_left 1; (focus (exact rfl)); rotate_right 1; k_whole; intro g' L' h' FG' F' N' B' X' T'; (try dsimp only); (try k_lift B'); (try k_fold)))))
  trivial
example : True := by
  k_with "call ref" => ((k_here; k_dflt (refine' callBy (skip_no _ _ _ _ _ _ _ _ ?_ ?_ ?_ ?_ _ _ _ ?_ ?_) ?_ ?_; rotate_right 2; (focus (walk_at "x.pn")); (all_goals skip); rotate_right 6; (focus (omega)); (focus (decide +kernel)); (focus (omega)); (focus (k_asm)); (focus (k_ne)); (focus (k_all)); walk_at "x.tt")))
  trivial
example : True := by
  k_with "call ref" => ((k_here; k_dflt (refine' callBy (digits_is _ _ _ _ _ _ ?_ ?_ _ _ _ ?_ ?_) ?_ ?_; rotate_right 2; (focus (walk_at "x.pn")); (all_goals skip); rotate_right 4; (focus (omega)); (focus (omega)); (focus (k_ne)); (focus (k_all)); walk_at "x.tt")))
  trivial
example : True := by
  k_with "call ref" => ((k_here; k_dflt (refine' callBy (readexp_is _ _ _ _ _ _ ?_ ?_ ?_ _ _ _ ?_ ?_) ?_ ?_; rotate_right 2; (focus (walk_at "x.pn")); (all_goals skip); rotate_right 5; (focus (omega)); (focus (omega)); (focus (k_asm)); (focus (k_ne)); (focus (k_all)); walk_at "x.tt")))
  trivial
example : True := by
  k_with "call ref" => ((k_here; k_dflt (refine' callBy (whole_is _ _ ?_ ?_ _) ?_ ?_; rotate_right 2; (focus (walk_at "x.p")); (all_goals skip); rotate_right 2; (focus (k_asm)); (focus (k_asm)); walk_at "x.t")))
  trivial
set_option maxHeartbeats 4000000 in
theorem readdec_whole (x : Str) (t1 : Tok) (hx : x.length ≤ 12) (hs : oneOf x 0 (Str.ofString "+-") = false) (he : digEnd x 0 = x.length) (hdot : oneOf x (digEnd x 0) (Str.ofString ".") = false) (hee : oneOf x (digEnd x 0) (Str.ofString "eE") = false)
    (hw : allDig (Txt.slice x (some 0) (some (digEnd x 0)) ++ Str.ofString "")) (hl : (Txt.slice x (some 0) (some (digEnd x 0)) ++ Str.ofString "").length ≤ 12) (hne : ((Txt.slice x (some 0) (some (digEnd x 0)) ++ Str.ofString "") == Str.ofString "") = false) (news : List (Addr × Obj)) :
    CallOf w mean mg mb 171 [.str x t1] 5 news (fun h₀ L m s Q => Ret2 h₀ L m news s Q (wholeS (Txt.slice x (some 0) (some (digEnd x 0)) ++ Str.ofString "")) 1) := by
  dsimp only [CallOf]
  intro dp un gd cn cs a9 ccd cl outer A₀ base h₀ L m s Q E B F X N T hk hd9 hu9 hret
  suffices hz : (laid.heap_1 = laid.heap_1 → PySem.Challenge.rw_nu0021_01 = PySem.Challenge.rw_nu0021_01 → _) from hz rfl rfl
  k_fill
  intro _ _
  refine wpAny_call ?_
  k_dflt (refine' code_def ?k1 ?k2 ?k3 ?k4 ?k5 ?kA ?kF ?kK ?k6 ?k7 ?k8 ?k9 ?kB ?_ ?c2 ?c3 ?c4 ?c5; (case kA => exact rfl); (case kF => exact rfl); (case kK => assumption); (case k1 => k_asm); (case k2 => k_asm); (case k3 => k_asm); (case k4 => k_asm); (case k5 => k_asm); (case k6 => k_is); (case k7 => k_is); (case k8 => ktr_room); (case k9 => first | exact BindsTo.of_eq rfl | exact binds_K (by k_in) rfl (by k_is) rfl rfl rfl); (case c5 => decide); (case kB => exact locs rfl); (case c2 => exact rfl); (case c3 => exact rfl); (case c4 => exact rfl); k_whole; intro g' L' h' FG' F' N' B' X' T'; (try dsimp only); (try k_lift B'); (try k_fold))
  have ev : wholeS (Txt.slice x (some 0) (some (digEnd x 0)) ++ Str.ofString "") = wholeS (Txt.slice x (some 0) (some (digEnd x 0)) ++ Str.ofString "") * 10 ^ ((0 : Int) - ((0 : Nat) : Int)).toNat := by simp
  k_steps
  rw [ev] at hret
  refine' hret _ _ _ _ _ ?zf1 ?zn1 ?zo1
  case zf1 => assumption
  case zn1 => exact cb_drop (by assumption) (List.forall_mem_cons.mpr ⟨List.Mem.head _, fun p hp => by repeat (first | exact hp | refine List.mem_cons_of_mem _ ?_)⟩)
  case zo1 => (first | exact lts_of (by assumption) (fun p hp => by repeat (first | exact hp | refine List.mem_cons_of_mem _ ?_)) | (intro p9 hp9; (repeat' (first | (with_reducible rename (∀ p : Addr × Obj, p ∈ (_ : List (Addr × Obj)) → @LT.lt Nat _ p.1 _) => hq9; first | replace hq9 := ltN (hq9 p9 hp9) | clear hq9) | (with_reducible rename AllLt _ _ => hq9; first | replace hq9 := ltN (ktn_ltOf hq9 p9 hp9) | clear hq9) | (with_reducible rename (_ ∧ AllLt _ _) => hq9; obtain ⟨hz9, hq9⟩ := hq9) | (with_reducible rename (_ ∧ _ ∧ AllLt _ _) => hq9; obtain ⟨hz9, hq9⟩ := hq9) | (with_reducible rename (_ ∧ _ ∧ _ ∧ AllLt _ _) => hq9; obtain ⟨hz9, hq9⟩ := hq9) | (with_reducible rename (_ ∧ _ ∧ _ ∧ _ ∧ AllLt _ _) => hq9; obtain ⟨hz9, hq9⟩ := hq9) | (with_reducible rename (_ ∧ _ ∧ _ ∧ _ ∧ _ ∧ AllLt _ _) => hq9; obtain ⟨hz9, hq9⟩ := hq9) | (with_reducible rename (_ ∧ _ ∧ _ ∧ _ ∧ _ ∧ _ ∧ AllLt _ _) => hq9; obtain ⟨hz9, hq9⟩ := hq9) | (with_reducible rename (_ ∧ _ ∧ _ ∧ _ ∧ _ ∧ _ ∧ _ ∧ AllLt _ _) => hq9; obtain ⟨hz9, hq9⟩ := hq9) | (with_reducible rename (_ ∧ _ ∧ _ ∧ _ ∧ _ ∧ _ ∧ _ ∧ _ ∧ AllLt _ _) => hq9; obtain ⟨hz9, hq9⟩ := hq9))); first | assumption | (refine ltN ?_; omega)))
end

section
example : True := by
  k_with_none
  k_with "k_all" => (first | assumption | (intro p9 hp9; (repeat' (first | (with_reducible rename (∀ p : Addr × Obj, p ∈ (_ : List (Addr × Obj)) → @LT.lt Nat _ p.1 _) => hq9; first | replace hq9 := ltN (hq9 p9 hp9) | clear hq9) | (with_reducible rename AllLt _ _ => hq9; first | replace hq9 := ltN (ktn_ltOf hq9 p9 hp9) | clear hq9) | (with_reducible rename (_ ∧ AllLt _ _) => hq9; obtain ⟨hz9, hq9⟩ := hq9))); (refine neN ?_); omega))
  k_with "k_ne" => ((refine neN ?_; (try dsimp only); first | with_reducible assumption | exact Ne.symm (by with_reducible assumption) | exact ne_above (by with_reducible assumption) (by k_mem) | exact Ne.symm (ne_above (by with_reducible assumption) (by k_mem)) | exact ne_above1 (by with_reducible assumption) (by k_mem) | exact Ne.symm (ne_above1 (by with_reducible assumption) (by k_mem))))
  k_with "room" => (first | exact room_at (by with_reducible assumption) rfl rfl | exact room_at0 (by with_reducible assumption) rfl | exact room_at1 (by with_reducible assumption) rfl rfl)
  k_with "units" => (exact units_at (by with_reducible assumption) rfl rfl)
  k_with "x.p" => (refine' Prem.mk ?_ ?_ ?_ ?_ ?_ ?_ ?_ ?_; rotate_right 8; (focus k_asm); (focus k_asm); (focus k_asm); (focus (k_asm)); (focus k_asm); (focus (first | exact rfl | assumption)); (focus ktr_room); (focus ktr_units))
  k_with "x.pn" => (refine' Prem.mk ?_ ?_ ?_ ?_ ?_ ?_ ?_ ?_; rotate_right 8; (focus k_asm); (focus k_asm); (focus k_asm); (focus (first | k_asm | exact news_rot1 (by k_asm) | exact news_rot2 (by k_asm))); (focus k_asm); (focus (first | exact rfl | assumption)); (focus ktr_room); (focus ktr_units))
  k_with "x.pr" => (refine' Prem.mk ?_ ?_ ?_ ?_ ?_ ?_ ?_ ?_; rotate_right 8; (focus k_asm); (focus k_asm); (focus k_asm); (focus (first | k_asm | exact rot1 (by k_asm) | exact rot2 (by k_asm) | exact rot3 (by k_asm))); (focus k_asm); (focus (first | exact rfl | assumption)); (focus ktr_room); (focus ktr_units))
  k_with "x.t" => (intro t9 h9 tk9 F9 N9; (try dsimp only); (try k_fold))
  k_with "x.2" => (intro x9 t91 t92 h9 tk9 F9 N9 l9; (try k_lt l9); (try dsimp only); (try k_fold))
  k_with "x.3" => (intro x9 t91 t92 t93 h9 tk9 F9 N9 l9; (try k_lt l9); (try dsimp only); (try k_fold))
  k_with "x.4" => (intro x9 t91 t92 t93 t94 h9 tk9 F9 N9 l9; (try k_lt l9); (try dsimp only); (try k_fold))
  k_with "x.tt" => (intro t9 t91 h9 tk9 F9 N9; (try dsimp only); (try k_fold))
  k_with "x.take" => (intro d9 a9 b9 t9 t91 t92 n9 h9 tk9 hd0 hd1 ha9 hb9 hb99 F9 N9; (have hb9' := And.intro hb9 hb99); (try dsimp only); (try k_fold))
  k_with "x.r" => (intro e9 t9 ws9 h9 tk9 G9 FG9 R9 U9; (try dsimp only); (try k_fold))
  k_with "x.c" => (intro h9 tk9 g9 T9 F9 N9 B9 X9 P9 D9; (try dsimp only); (try k_fold))
  k_with "eval Name" => ((k_here; (first | ((with_reducible show wpAny _ _ (eval (Expr.Name _ _) (compEnvC _ _ _ _)) _ _ _); k_dflt (first | (name_kind "local"; refine' LCgL.ld_own ?_ ?_ ?_ ?_ ?_ ?_ ?_ ?_; rotate_right 8; rotate_left 6; (focus (first | kernel_rfl! | rfl)); rotate_right 6; rotate_left 5; (focus (rfl)); rotate_right 5; rotate_left 5; (focus (decide)); rotate_right 5; (focus (k_asm)); (focus (k_mem)); (focus (assumption)); (focus (assumption))) | (name_kind "globalImplicit"; first | (refine' LCgL.ld_global ?_ ?_ ?_ ?_ ?_ ?_ ?_ ?_ ?_; rotate_right 9; rotate_left 7; (focus (first | kernel_rfl! | rfl)); rotate_right 7; (focus (k_asm)); (focus (k_asm)); (focus (k_asm)); (focus (k_is)); rotate_left 1; (focus (rfl)); rotate_right 1; rotate_left 1; (focus (rfl)); rotate_right 1; rotate_left 1; (focus (decide)); rotate_right 1) | (refine' LCgL.ld_built ?_ ?_ ?_ ?_ ?_ ?_ ?_ ?_ ?_ ?_ ?_ ?_; rotate_right 12; rotate_left 10; (focus (first | kernel_rfl! | rfl)); rotate_right 10; (focus (k_asm)); (focus (k_asm)); (focus (k_asm)); (focus (k_is)); (focus (boot_by_name)); (focus (decide)); rotate_left 1; (focus (rfl)); rotate_right 1; rotate_left 1; (focus (rfl)); rotate_right 1; rotate_left 1; (focus (rfl)); rotate_right 1; rotate_left 1; (focus (decide)); rotate_right 1))) ) | ((fail_if_success (with_reducible show wpAny _ _ (eval (Expr.Name _ _) (compEnvC _ _ _ _)) _ _ _)); k_dflt (first | (name_kind "local"; refine' nameX_L ?_ ?_ ?_ ?_ ?_; rotate_right 5; rotate_left 4; (focus (first | kernel_rfl! | rfl)); rotate_right 4; rotate_left 3; (focus (rfl)); rotate_right 3; (focus (k_asm)); (focus (rfl)); k_whole) | (name_kind "globalImplicit"; first | (refine' nameX_K ?_ ?_ ?_ ?_ ?_ ?_ ?_; rotate_right 7; rotate_left 6; (focus (first | kernel_rfl! | rfl)); rotate_right 6; (focus (k_asm)); (focus (k_asm)); (focus (k_asm)); rotate_left 2; (focus (rfl)); rotate_right 2; (focus (k_is)); k_whole) | (refine' nameX_B ?_ ?_ ?_ ?_ ?_ ?_ ?_ ?_ ?_; rotate_right 9; rotate_left 8; (focus (first | kernel_rfl! | rfl)); rotate_right 8; (focus (k_asm)); (focus (k_asm)); (focus (k_asm)); rotate_left 4; (focus (rfl)); rotate_right 4; (focus (k_is)); (focus (boot_fast)); (focus (decide)); k_whole)) | (name_kind "cell"; refine' nameX_C ?_ ?_ ?_ ?_ ?_ ?_ ?_; rotate_right 7; rotate_left 6; (focus (first | kernel_rfl! | rfl)); rotate_right 6; rotate_left 5; (focus (rfl)); rotate_right 5; (focus (k_asm)); (focus (rfl)); (focus (k_mem)); (focus (k_asm)); k_whole))))))
  k_with "fold" => ((fail_if_success (fail_if_success k_fold)); (refine (let qk := _; let ek := _; (?_ : wpAny _ _ _ qk ek _))))
  k_with "isTrue BoolOp" => (k_here; k_extra "fold")
  k_with "isTrue Compare" => (k_here; k_extra "fold")
  k_with "isTrue UnaryOp" => (k_here; k_extra "fold")
  k_with "eval Call" => (k_here; k_extra "fold")
  k_with "eval Compare" => (k_here; k_extra "fold")
  k_with "eval BinOp" => (k_here; k_extra "fold")
  k_with "eval Tuple" => (k_here; k_extra "fold")
  k_with "eval List" => (k_here; k_extra "fold")
  trivial
example : True := by
  k_with "call ref" => ((k_here; k_dflt (first | (refine' call_cls ?_ ?_ ?_ ?_ ?_ ?_ ?_; rotate_right 7; (focus (k_asm)); (focus (k_asm)); (focus (k_asm)); (focus (k_is)); (focus (k_is)); (focus (k_is)); k_whole; intro x' d' h' F' N' l1 l2; (try k_lt l1); (try k_lt2 l2); (try k_sweep); refine' code_def ?_ ?_ ?_ ?_ ?_ ?_ ?_ ?_ ?_ ?_ ?_ ?_ ?_ ?_ ?_ ?_ ?_ ?_; rotate_right 18; rotate_left 5; (focus (exact rfl)); rotate_right 5; rotate_left 5; (focus (exact rfl)); rotate_right 5; rotate_left 5; (focus (first | exact rfl | assumption)); rotate_right 5; (focus (k_asm)); (focus (k_asm)); (focus (k_asm)); (focus (k_asm)); (focus (k_asm)); (focus (k_is)); (focus (k_is)); (focus (ktr_room)); (focus (first | exact BindsTo.of_eq rfl | exact binds_K (by k_in) rfl (by k_is) rfl rfl rfl)); rotate_left 5; (focus (decide)); rotate_right 5; (focus (exact locs rfl)); rotate_left 1; (focus (exact rfl)); rotate_right 1; rotate_left 1; (focus (exact rfl)); rotate_right 1; rotate_left 1; (focus (exact rfl)); rotate_right 1; k_whole; intro g' L' h' FG' F' N' B' X' T'; (try dsimp only); (try k_lift B'); (try k_fold)) | (refine' call_meth ?_ ?_ ?_; rotate_right 3; (focus (k_asm)); (focus (k_mem)); k_whole; refine' code_def ?_ ?_ ?_ ?_ ?_ ?_ ?_ ?_ ?_ ?_ ?_ ?_ ?_ ?_ ?_ ?_ ?_ ?_; rotate_right 18; rotate_left 5; (focus (exact rfl)); rotate_right 5; rotate_left 5; (focus (exact rfl)); rotate_right 5; rotate_left 5; (focus (first | exact rfl | assumption)); rotate_right 5; (focus (k_asm)); (focus (k_asm)); (focus (k_asm)); (focus (k_asm)); (focus (k_asm)); (focus (k_is)); (focus (k_is)); (focus (ktr_room)); (focus (first | exact BindsTo.of_eq rfl | exact binds_K (by k_in) rfl (by k_is) rfl rfl rfl)); rotate_left 5; (focus (decide)); rotate_right 5; (focus (exact locs rfl)); rotate_left 1; (focus (exact rfl)); rotate_right 1; rotate_left 1; (focus (exact rfl)); rotate_right 1; rotate_left 1; (focus (exact rfl)); rotate_right 1; k_whole; intro g' L' h' FG' F' N' B' X' T'; (try dsimp only); (try k_lift B'); (try k_fold)) | (refine wpAny_call ?_; refine' code_def ?_ ?_ ?_ ?_ ?_ ?_ ?_ ?_ ?_ ?_ ?_ ?_ ?_ ?_ ?_ ?_ ?_ ?_; rotate_right 18; rotate_left 5; (focus (exact rfl)); rotate_right 5; rotate_left 5; (focus (exact rfl)); rotate_right 5; rotate_left 5; (focus (first | exact rfl | assumption)); rotate_right 5; (focus (k_asm)); (focus (k_asm)); (focus (k_asm)); (focus (k_asm)); (focus (k_asm)); (focus (k_is)); (focus (k_is)); (focus (ktr_room)); (focus (first | exact BindsTo.of_eq rfl | exact binds_K (by k_in) rfl (by k_is) rfl rfl rfl)); rotate_left 5; (focus (decide)); rotate_right 5; (focus (exact locs rfl)); rotate_left 1; (focus (exact rfl)); rotate_right 1; rotate_left 1; (focus (exact rfl)); rotate_right 1; rotate_left 1; (focus (exact rfl)); rotate_right 1; k_whole; intro g' L' h' FG' F' N' B' X' T'; (try dsimp only); (try k_lift B'); (try k_fold)))))
  trivial
example : True := by
  k_with "call ref" => ((k_here; k_dflt (refine' callBy (skip_yes _ _ _ _ _ _ _ _ ?_ ?_ ?_ ?_ _ _ _ ?_ ?_) ?_ ?_; rotate_right 2; (focus (walk_at "x.pn")); (all_goals skip); rotate_right 6; (focus (omega)); (focus (decide +kernel)); (focus (omega)); (focus (k_asm)); (focus (k_ne)); (focus (k_all)); walk_at "x.tt")))
  trivial
example : True := by
  k_with "call ref" => ((k_here; k_dflt (refine' callBy (skip_no _ _ _ _ _ _ _ _ ?_ ?_ ?_ ?_ _ _ _ ?_ ?_) ?_ ?_; rotate_right 2; (focus (walk_at "x.pn")); (all_goals skip); rotate_right 6; (focus (omega)); (focus (decide +kernel)); (focus (omega)); (focus (k_asm)); (focus (k_ne)); (focus (k_all)); walk_at "x.tt")))
  trivial
example : True := by
  k_with "call ref" => ((k_here; k_dflt (refine' callBy (digits_is _ _ _ _ _ _ ?_ ?_ _ _ _ ?_ ?_) ?_ ?_; rotate_right 2; (focus (walk_at "x.pn")); (all_goals skip); rotate_right 4; (focus (omega)); (focus (omega)); (focus (k_ne)); (focus (k_all)); walk_at "x.tt")))
  trivial
example : True := by
  k_with "call ref" => ((k_here; k_dflt (refine' callBy (readexp_is _ _ _ _ _ _ ?_ ?_ ?_ _ _ _ ?_ ?_) ?_ ?_; rotate_right 2; (focus (walk_at "x.pn")); (all_goals skip); rotate_right 5; (focus (omega)); (focus (omega)); (focus (k_asm)); (focus (k_ne)); (focus (k_all)); walk_at "x.tt")))
  trivial
example : True := by
  k_with "call ref" => ((k_here; k_dflt (refine' callBy (whole_is _ _ ?_ ?_ _) ?_ ?_; rotate_right 2; (focus (walk_at "x.p")); (all_goals skip); rotate_right 2; (focus (k_asm)); (focus (k_asm)); walk_at "x.t")))
  trivial
example : True := by
  k_with "call ref" => ((k_here; k_dflt (refine' callBy (frac_is _ _ _ _ ?_ _) ?_ ?_; rotate_right 2; (focus (walk_at "x.p")); (all_goals skip); rotate_right 1; (focus (first | omega | (rw [show (-(0 - ((Txt.slice _ _ _).length : Int))).toNat = 1 by omega]; decide))); walk_at "x.2")))
  trivial
set_option maxHeartbeats 4000000 in
theorem readdec_dot (x : Str) (t1 : Tok) (hx : x.length ≤ 12) (hs : oneOf x 0 (Str.ofString "+-") = false) (hj : 0 ≤ digEnd x 0 ∧ digEnd x 0 < x.length) (hdot : oneOf x (digEnd x 0) (Str.ofString ".") = true) (hdn : (Txt.item x (digEnd x 0) != Str.ofString "") = true)
    (he : digEnd x (digEnd x 0 + 1) = x.length) (hee : oneOf x (digEnd x (digEnd x 0 + 1)) (Str.ofString "eE") = false) (hp : (Txt.slice x (some (digEnd x 0 + 1)) (some (digEnd x (digEnd x 0 + 1)))).length = 1)
    (hw : allDig (Txt.slice x (some 0) (some (digEnd x 0)) ++ Txt.slice x (some (digEnd x 0 + 1)) (some (digEnd x (digEnd x 0 + 1))))) (hl : (Txt.slice x (some 0) (some (digEnd x 0)) ++ Txt.slice x (some (digEnd x 0 + 1)) (some (digEnd x (digEnd x 0 + 1)))).length ≤ 12)
    (hne : ((Txt.slice x (some 0) (some (digEnd x 0)) ++ Txt.slice x (some (digEnd x 0 + 1)) (some (digEnd x (digEnd x 0 + 1)))) == Str.ofString "") = false) (news : List (Addr × Obj)) :
    CallOf w mean mg mb 171 [.str x t1] 5 news (fun h₀ L m s Q => Ret2 h₀ L m news s Q (fracT (wholeS (Txt.slice x (some 0) (some (digEnd x 0)) ++ Txt.slice x (some (digEnd x 0 + 1)) (some (digEnd x (digEnd x 0 + 1))))) 10) (fracB (wholeS (Txt.slice x (some 0) (some (digEnd x 0)) ++ Txt.slice x (some (digEnd x 0 + 1)) (some (digEnd x (digEnd x 0 + 1))))) 10)) := by
  dsimp only [CallOf]
  intro dp un gd cn cs a9 ccd cl outer A₀ base h₀ L m s Q E B F X N T hk hd9 hu9 hret
  suffices hz : (laid.heap_1 = laid.heap_1 → PySem.Challenge.rw_nu0021_01 = PySem.Challenge.rw_nu0021_01 → _) from hz rfl rfl
  k_fill
  intro _ _
  refine wpAny_call ?_
  k_dflt (refine' code_def ?k1 ?k2 ?k3 ?k4 ?k5 ?kA ?kF ?kK ?k6 ?k7 ?k8 ?k9 ?kB ?_ ?c2 ?c3 ?c4 ?c5; (case kA => exact rfl); (case kF => exact rfl); (case kK => assumption); (case k1 => k_asm); (case k2 => k_asm); (case k3 => k_asm); (case k4 => k_asm); (case k5 => k_asm); (case k6 => k_is); (case k7 => k_is); (case k8 => ktr_room); (case k9 => first | exact BindsTo.of_eq rfl | exact binds_K (by k_in) rfl (by k_is) rfl rfl rfl); (case c5 => decide); (case kB => exact locs rfl); (case c2 => exact rfl); (case c3 => exact rfl); (case c4 => exact rfl); k_whole; intro g' L' h' FG' F' N' B' X' T'; (try dsimp only); (try k_lift B'); (try k_fold))
  k_steps
  have e10 : (10 : Int) = 10 ^ (-(0 - ((Txt.slice x (some (digEnd x 0 + 1)) (some (digEnd x (digEnd x 0 + 1)))).length : Int))).toNat := by rw [hp]; rfl
  rw [e10] at hret
  refine' hret _ _ _ _ _ ?zf1 ?zn1 ?zo1
  case zf1 => assumption
  case zn1 => exact cb_drop (by assumption) (List.forall_mem_cons.mpr ⟨List.Mem.head _, fun p hp => by repeat (first | exact hp | refine List.mem_cons_of_mem _ ?_)⟩)
  case zo1 => (first | exact lts_of (by assumption) (fun p hp => by repeat (first | exact hp | refine List.mem_cons_of_mem _ ?_)) | (intro p9 hp9; (repeat' (first | (with_reducible rename (∀ p : Addr × Obj, p ∈ (_ : List (Addr × Obj)) → @LT.lt Nat _ p.1 _) => hq9; first | replace hq9 := ltN (hq9 p9 hp9) | clear hq9) | (with_reducible rename AllLt _ _ => hq9; first | replace hq9 := ltN (ktn_ltOf hq9 p9 hp9) | clear hq9) | (with_reducible rename (_ ∧ AllLt _ _) => hq9; obtain ⟨hz9, hq9⟩ := hq9) | (with_reducible rename (_ ∧ _ ∧ AllLt _ _) => hq9; obtain ⟨hz9, hq9⟩ := hq9) | (with_reducible rename (_ ∧ _ ∧ _ ∧ AllLt _ _) => hq9; obtain ⟨hz9, hq9⟩ := hq9) | (with_reducible rename (_ ∧ _ ∧ _ ∧ _ ∧ AllLt _ _) => hq9; obtain ⟨hz9, hq9⟩ := hq9) | (with_reducible rename (_ ∧ _ ∧ _ ∧ _ ∧ _ ∧ AllLt _ _) => hq9; obtain ⟨hz9, hq9⟩ := hq9) | (with_reducible rename (_ ∧ _ ∧ _ ∧ _ ∧ _ ∧ _ ∧ AllLt _ _) => hq9; obtain ⟨hz9, hq9⟩ := hq9) | (with_reducible rename (_ ∧ _ ∧ _ ∧ _ ∧ _ ∧ _ ∧ _ ∧ AllLt _ _) => hq9; obtain ⟨hz9, hq9⟩ := hq9) | (with_reducible rename (_ ∧ _ ∧ _ ∧ _ ∧ _ ∧ _ ∧ _ ∧ _ ∧ AllLt _ _) => hq9; obtain ⟨hz9, hq9⟩ := hq9))); first | assumption | (refine ltN ?_; omega)))
end

section
example : True := by
  k_with_none
  k_with "k_all" => (first | assumption | (intro p9 hp9; (repeat' (first | (with_reducible rename (∀ p : Addr × Obj, p ∈ (_ : List (Addr × Obj)) → @LT.lt Nat _ p.1 _) => hq9; first | replace hq9 := ltN (hq9 p9 hp9) | clear hq9) | (with_reducible rename AllLt _ _ => hq9; first | replace hq9 := ltN (ktn_ltOf hq9 p9 hp9) | clear hq9) | (with_reducible rename (_ ∧ AllLt _ _) => hq9; obtain ⟨hz9, hq9⟩ := hq9))); (refine neN ?_); omega))
  k_with "k_ne" => ((refine neN ?_; (try dsimp only); first | with_reducible assumption | exact Ne.symm (by with_reducible assumption) | exact ne_above (by with_reducible assumption) (by k_mem) | exact Ne.symm (ne_above (by with_reducible assumption) (by k_mem)) | exact ne_above1 (by with_reducible assumption) (by k_mem) | exact Ne.symm (ne_above1 (by with_reducible assumption) (by k_mem))))
  k_with "room" => (first | exact room_at (by with_reducible assumption) rfl rfl | exact room_at0 (by with_reducible assumption) rfl | exact room_at1 (by with_reducible assumption) rfl rfl)
  k_with "units" => (exact units_at (by with_reducible assumption) rfl rfl)
  k_with "x.p" => (refine' Prem.mk ?_ ?_ ?_ ?_ ?_ ?_ ?_ ?_; rotate_right 8; (focus k_asm); (focus k_asm); (focus k_asm); (focus (k_asm)); (focus k_asm); (focus (first | exact rfl | assumption)); (focus ktr_room); (focus ktr_units))
  k_with "x.pn" => (refine' Prem.mk ?_ ?_ ?_ ?_ ?_ ?_ ?_ ?_; rotate_right 8; (focus k_asm); (focus k_asm); (focus k_asm); (focus (first | k_asm | exact news_rot1 (by k_asm) | exact news_rot2 (by k_asm))); (focus k_asm); (focus (first | exact rfl | assumption)); (focus ktr_room); (focus ktr_units))
  k_with "x.pr" => (refine' Prem.mk ?_ ?_ ?_ ?_ ?_ ?_ ?_ ?_; rotate_right 8; (focus k_asm); (focus k_asm); (focus k_asm); (focus (first | k_asm | exact rot1 (by k_asm) | exact rot2 (by k_asm) | exact rot3 (by k_asm))); (focus k_asm); (focus (first | exact rfl | assumption)); (focus ktr_room); (focus ktr_units))
  k_with "x.t" => (intro t9 h9 tk9 F9 N9; (try dsimp only); (try k_fold))
  k_with "x.2" => (intro x9 t91 t92 h9 tk9 F9 N9 l9; (try k_lt l9); (try dsimp only); (try k_fold))
  k_with "x.3" => (intro x9 t91 t92 t93 h9 tk9 F9 N9 l9; (try k_lt l9); (try dsimp only); (try k_fold))
  k_with "x.4" => (intro x9 t91 t92 t93 t94 h9 tk9 F9 N9 l9; (try k_lt l9); (try dsimp only); (try k_fold))
  k_with "x.tt" => (intro t9 t91 h9 tk9 F9 N9; (try dsimp only); (try k_fold))
  k_with "x.take" => (intro d9 a9 b9 t9 t91 t92 n9 h9 tk9 hd0 hd1 ha9 hb9 hb99 F9 N9; (have hb9' := And.intro hb9 hb99); (try dsimp only); (try k_fold))
  k_with "x.r" => (intro e9 t9 ws9 h9 tk9 G9 FG9 R9 U9; (try dsimp only); (try k_fold))
  k_with "x.c" => (intro h9 tk9 g9 T9 F9 N9 B9 X9 P9 D9; (try dsimp only); (try k_fold))
  k_with "eval Name" => ((k_here; (first | ((with_reducible show wpAny _ _ (eval (Expr.Name _ _) (compEnvC _ _ _ _)) _ _ _); k_dflt (first | (name_kind "local"; refine' LCgL.ld_own ?_ ?_ ?_ ?_ ?_ ?_ ?_ ?_; rotate_right 8; rotate_left 6; (focus (first | kernel_rfl! | rfl)); rotate_right 6; rotate_left 5; (focus (rfl)); rotate_right 5; rotate_left 5; (focus (decide)); rotate_right 5; (focus (k_asm)); (focus (k_mem)); (focus (assumption)); (focus (assumption))) | (name_kind "globalImplicit"; first | (refine' LCgL.ld_global ?_ ?_ ?_ ?_ ?_ ?_ ?_ ?_ ?_; rotate_right 9; rotate_left 7; (focus (first | kernel_rfl! | rfl)); rotate_right 7; (focus (k_asm)); (focus (k_asm)); (focus (k_asm)); (focus (k_is)); rotate_left 1; (focus (rfl)); rotate_right 1; rotate_left 1; (focus (rfl)); rotate_right 1; rotate_left 1; (focus (decide)); rotate_right 1) | (refine' LCgL.ld_built ?_ ?_ ?_ ?_ ?_ ?_ ?_ ?_ ?_ ?_ ?_ ?_; rotate_right 12; rotate_left 10; (focus (first | kernel_rfl! | rfl)); rotate_right 10; (focus (k_asm)); (focus (k_asm)); (focus (k_asm)); (focus (k_is)); (focus (boot_by_name)); (focus (decide)); rotate_left 1; (focus (rfl)); rotate_right 1; rotate_left 1; (focus (rfl)); rotate_right 1; rotate_left 1; (focus (rfl)); rotate_right 1; rotate_left 1; (focus (decide)); rotate_right 1))) ) | ((fail_if_success (with_reducible show wpAny _ _ (eval (Expr.Name _ _) (compEnvC _ _ _ _)) _ _ _)); k_dflt (first | (name_kind "local"; refine' nameX_L ?_ ?_ ?_ ?_ ?_; rotate_right 5; rotate_left 4; (focus (first | kernel_rfl! | rfl)); rotate_right 4; rotate_left 3; (focus (rfl)); rotate_right 3; (focus (k_asm)); (focus (rfl)); k_whole) | (name_kind "globalImplicit"; first | (refine' nameX_K ?_ ?_ ?_ ?_ ?_ ?_ ?_; rotate_right 7; rotate_left 6; (focus (first | kernel_rfl! | rfl)); rotate_right 6; (focus (k_asm)); (focus (k_asm)); (focus (k_asm)); rotate_left 2; (focus (rfl)); rotate_right 2; (focus (k_is)); k_whole) | (refine' nameX_B ?_ ?_ ?_ ?_ ?_ ?_ ?_ ?_ ?_; rotate_right 9; rotate_left 8; (focus (first | kernel_rfl! | rfl)); rotate_right 8; (focus (k_asm)); (focus (k_asm)); (focus (k_asm)); rotate_left 4; (focus (rfl)); rotate_right 4; (focus (k_is)); (focus (boot_fast)); (focus (decide)); k_whole)) | (name_kind "cell"; refine' nameX_C ?_ ?_ ?_ ?_ ?_ ?_ ?_; rotate_right 7; rotate_left 6; (focus (first | kernel_rfl! | rfl)); rotate_right 6; rotate_left 5; (focus (rfl)); rotate_right 5; (focus (k_asm)); (focus (rfl)); (focus (k_mem)); (focus (k_asm)); k_whole))))))
  k_with "fold" => ((fail_if_success (fail_if_success k_fold)); (refine (let qk := _; let ek := _; (?_ : wpAny _ _ _ qk ek _))))
  k_with "isTrue BoolOp" => (k_here; k_extra "fold")
  k_with "isTrue Compare" => (k_here; k_extra "fold")
  k_with "isTrue UnaryOp" => (k_here; k_extra "fold")
  k_with "eval Call" => (k_here; k_extra "fold")
  k_with "eval Compare" => (k_here; k_extra "fold")
  k_with "eval BinOp" => (k_here; k_extra "fold")
  k_with "eval Tuple" => (k_here; k_extra "fold")
  k_with "eval List" => (k_here; k_extra "fold")
  trivial
example : True := by
  k_with "call ref" => ((k_here; k_dflt (first | (refine' call_cls ?_ ?_ ?_ ?_ ?_ ?_ ?_; rotate_right 7; (focus (k_asm)); (focus (k_asm)); (focus (k_asm)); (focus (k_is)); (focus (k_is)); (focus (k_is)); k_whole; intro x' d' h' F' N' l1 l2; (try k_lt l1); (try k_lt2 l2); (try k_sweep); refine' code_def ?_ ?_ ?_ ?_ ?_ ?_ ?_ ?_ ?_ ?_ ?_ ?_ ?_ ?_ ?_ ?_ ?_ ?_; rotate_right 18; rotate_left 5; (focus (exact rfl)); rotate_right 5; rotate_left 5; (focus (exact rfl)); rotate_right 5; rotate_left 5; (focus (first | exact rfl | assumption)); rotate_right 5; (focus (k_asm)); (focus (k_asm)); (focus (k_asm)); (focus (k_asm)); (focus (k_asm)); (focus (k_is)); (focus (k_is)); (focus (ktr_room)); (focus (first | exact BindsTo.of_eq rfl | exact binds_K (by k_in) rfl (by k_is) rfl rfl rfl)); rotate_left 5; (focus (decide)); rotate_right 5; (focus (exact locs rfl)); rotate_left 1; (focus (exact rfl)); rotate_right 1; rotate_left 1; (focus (exact rfl)); rotate_right 1; rotate_left 1; (focus (exact rfl)); rotate_right 1; k_whole; intro g' L' h' FG' F' N' B' X' T'; (try dsimp only); (try k_lift B'); (try k_fold)) | (refine' call_meth ?_ ?_ ?_; rotate_right 3; (focus (k_asm)); (focus (k_mem)); k_whole; refine' code_def ?_ ?_ ?_ ?_ ?_ ?_ ?_ ?_ ?_ ?_ ?_ ?_ ?_ ?_ ?_ ?_ ?_ ?_; rotate_right 18; rotate_left 5; (focus (exact rfl)); rotate_right 5; rotate_left 5; (focus (exact rfl)); rotate_right 5; rotate_left 5; (focus (first | exact rfl | assumption)); rotate_right 5; (focus (k_asm)); (focus (k_asm)); (focus (k_asm)); (focus (k_asm)); (focus (k_asm)); (focus (k_is)); (focus (k_is)); (focus (ktr_room)); (focus (first | exact BindsTo.of_eq rfl | exact binds_K (by k_in) rfl (by k_is) rfl rfl rfl)); rotate_left 5; (focus (decide)); rotate_right 5; (focus (exact locs rfl)); rotate_left 1; (focus (exact rfl)); rotate_right 1; rotate_left 1; (focus (exact rfl)); rotate_right 1; rotate_left 1; (focus (exact rfl)); rotate_right 1; k_whole; intro g' L' h' FG' F' N' B' X' T'; (try dsimp only); (try k_lift B'); (try k_fold)) | (refine wpAny_call ?_; refine' code_def ?_ ?_ ?_ ?_ ?_ ?_ ?_ ?_ ?_ ?_ ?_ ?_ ?_ ?_ ?_ ?_ ?_ ?_; rotate_right 18; rotate_left 5; (focus (exact rfl)); rotate_right 5; rotate_left 5; (focus (exact rfl)); rotate_right 5; rotate_left 5; (focus (first | exact rfl | assumption)); rotate_right 5; (focus (k_asm)); (focus (k_asm)); (focus (k_asm)); (focus (k_asm)); (focus (k_asm)); (focus (k_is)); (focus (k_is)); (focus (ktr_room)); (focus (first | exact BindsTo.of_eq rfl | exact binds_K (by k_in) rfl (by k_is) rfl rfl rfl)); rotate_left 5; (focus (decide)); rotate_right 5; (focus (exact locs rfl)); rotate_left 1; (focus (exact rfl)); rotate_right 1; rotate_left 1; (focus (exact rfl)); rotate_right 1; rotate_left 1; (focus (exact rfl)); rotate_right 1; k_whole; intro g' L' h' FG' F' N' B' X' T'; (try dsimp only); (try k_lift B'); (try k_fold)))))
  trivial
example : True := by
  k_with "call ref" => ((k_here; k_dflt (refine' callBy (skip_yes _ _ _ _ _ _ _ _ ?_ ?_ ?_ ?_ _ _ _ ?_ ?_) ?_ ?_; rotate_right 2; (focus (walk_at "x.pn")); (all_goals skip); rotate_right 6; (focus (omega)); (focus (decide +kernel)); (focus (omega)); (focus (k_asm)); (focus (k_ne)); (focus (k_all)); walk_at "x.tt")))
  trivial
example : True := by
  k_with "call ref" => ((k_here; k_dflt (refine' callBy (skip_no _ _ _ _ _ _ _ _ ?_ ?_ ?_ ?_ _ _ _ ?_ ?_) ?_ ?_; rotate_right 2; (focus (walk_at "x.pn")); (all_goals skip); rotate_right 6; (focus (omega)); (focus (decide +kernel)); (focus (omega)); (focus (k_asm)); (focus (k_ne)); (focus (k_all)); walk_at "x.tt")))
  trivial
example : True := by
  k_with "call ref" => ((k_here; k_dflt (refine' callBy (digits_is _ _ _ _ _ _ ?_ ?_ _ _ _ ?_ ?_) ?_ ?_; rotate_right 2; (focus (walk_at "x.pn")); (all_goals skip); rotate_right 4; (focus (omega)); (focus (omega)); (focus (k_ne)); (focus (k_all)); walk_at "x.tt")))
  trivial
example : True := by
  k_with "call ref" => ((k_here; k_dflt (refine' callBy (readexp_is _ _ _ _ _ _ ?_ ?_ ?_ _ _ _ ?_ ?_) ?_ ?_; rotate_right 2; (focus (walk_at "x.pn")); (all_goals skip); rotate_right 5; (focus (omega)); (focus (omega)); (focus (k_asm)); (focus (k_ne)); (focus (k_all)); walk_at "x.tt")))
  trivial
example : True := by
  k_with "call ref" => ((k_here; k_dflt (refine' callBy (whole_is _ _ ?_ ?_ _) ?_ ?_; rotate_right 2; (focus (walk_at "x.p")); (all_goals skip); rotate_right 2; (focus (k_asm)); (focus (k_asm)); walk_at "x.t")))
  trivial
set_option maxHeartbeats 4000000 in
theorem readdec_neg (x : Str) (t1 : Tok) (hx : x.length ≤ 12) (hs : oneOf x 0 (Str.ofString "+-") = true) (hsg : (Txt.item x 0 == Str.ofString "-") = true) (he : digEnd x (0 + 1) = x.length) (hdot : oneOf x (digEnd x (0 + 1)) (Str.ofString ".") = false) (hee : oneOf x (digEnd x (0 + 1)) (Str.ofString "eE") = false)
    (hw : allDig (Txt.slice x (some (0 + 1)) (some (digEnd x (0 + 1))) ++ Str.ofString "")) (hl : (Txt.slice x (some (0 + 1)) (some (digEnd x (0 + 1))) ++ Str.ofString "").length ≤ 12) (hne : ((Txt.slice x (some (0 + 1)) (some (digEnd x (0 + 1))) ++ Str.ofString "") == Str.ofString "") = false) (news : List (Addr × Obj)) :
    CallOf w mean mg mb 171 [.str x t1] 5 news (fun h₀ L m s Q => Ret2 h₀ L m news s Q (-wholeS (Txt.slice x (some (0 + 1)) (some (digEnd x (0 + 1))) ++ Str.ofString "")) 1) := by
  dsimp only [CallOf]
  intro dp un gd cn cs a9 ccd cl outer A₀ base h₀ L m s Q E B F X N T hk hd9 hu9 hret
  suffices hz : (laid.heap_1 = laid.heap_1 → PySem.Challenge.rw_nu0021_01 = PySem.Challenge.rw_nu0021_01 → _) from hz rfl rfl
  k_fill
  intro _ _
  refine wpAny_call ?_
  k_dflt (refine' code_def ?k1 ?k2 ?k3 ?k4 ?k5 ?kA ?kF ?kK ?k6 ?k7 ?k8 ?k9 ?kB ?_ ?c2 ?c3 ?c4 ?c5; (case kA => exact rfl); (case kF => exact rfl); (case kK => assumption); (case k1 => k_asm); (case k2 => k_asm); (case k3 => k_asm); (case k4 => k_asm); (case k5 => k_asm); (case k6 => k_is); (case k7 => k_is); (case k8 => ktr_room); (case k9 => first | exact BindsTo.of_eq rfl | exact binds_K (by k_in) rfl (by k_is) rfl rfl rfl); (case c5 => decide); (case kB => exact locs rfl); (case c2 => exact rfl); (case c3 => exact rfl); (case c4 => exact rfl); k_whole; intro g' L' h' FG' F' N' B' X' T'; (try dsimp only); (try k_lift B'); (try k_fold))
  have ev : -wholeS (Txt.slice x (some (0 + 1)) (some (digEnd x (0 + 1))) ++ Str.ofString "") = -wholeS (Txt.slice x (some (0 + 1)) (some (digEnd x (0 + 1))) ++ Str.ofString "") * 10 ^ ((0 : Int) - ((0 : Nat) : Int)).toNat := by simp
  have hsl : (Txt.slice x (some (0 + 1)) (some (digEnd x (0 + 1)))).length ≤ 12 := by
    have := hl
    rw [Str.length_append] at this
    omega
  k_steps
  rw [ev] at hret
  refine' hret _ _ _ _ _ ?zf1 ?zn1 ?zo1
  case zf1 => assumption
  case zn1 => exact cb_drop (by assumption) (List.forall_mem_cons.mpr ⟨List.Mem.head _, fun p hp => by repeat (first | exact hp | refine List.mem_cons_of_mem _ ?_)⟩)
  case zo1 => (first | exact lts_of (by assumption) (fun p hp => by repeat (first | exact hp | refine List.mem_cons_of_mem _ ?_)) | (intro p9 hp9; (repeat' (first | (with_reducible rename (∀ p : Addr × Obj, p ∈ (_ : List (Addr × Obj)) → @LT.lt Nat _ p.1 _) => hq9; first | replace hq9 := ltN (hq9 p9 hp9) | clear hq9) | (with_reducible rename AllLt _ _ => hq9; first | replace hq9 := ltN (ktn_ltOf hq9 p9 hp9) | clear hq9) | (with_reducible rename (_ ∧ AllLt _ _) => hq9; obtain ⟨hz9, hq9⟩ := hq9) | (with_reducible rename (_ ∧ _ ∧ AllLt _ _) => hq9; obtain ⟨hz9, hq9⟩ := hq9) | (with_reducible rename (_ ∧ _ ∧ _ ∧ AllLt _ _) => hq9; obtain ⟨hz9, hq9⟩ := hq9) | (with_reducible rename (_ ∧ _ ∧ _ ∧ _ ∧ AllLt _ _) => hq9; obtain ⟨hz9, hq9⟩ := hq9) | (with_reducible rename (_ ∧ _ ∧ _ ∧ _ ∧ _ ∧ AllLt _ _) => hq9; obtain ⟨hz9, hq9⟩ := hq9) | (with_reducible rename (_ ∧ _ ∧ _ ∧ _ ∧ _ ∧ _ ∧ AllLt _ _) => hq9; obtain ⟨hz9, hq9⟩ := hq9) | (with_reducible rename (_ ∧ _ ∧ _ ∧ _ ∧ _ ∧ _ ∧ _ ∧ AllLt _ _) => hq9; obtain ⟨hz9, hq9⟩ := hq9) | (with_reducible rename (_ ∧ _ ∧ _ ∧ _ ∧ _ ∧ _ ∧ _ ∧ _ ∧ AllLt _ _) => hq9; obtain ⟨hz9, hq9⟩ := hq9))); first | assumption | (refine ltN ?_; omega)))
end

section
example : True := by
  k_with_none
  k_with "k_all" => (first | assumption | (intro p9 hp9; (repeat' (first | (with_reducible rename (∀ p : Addr × Obj, p ∈ (_ : List (Addr × Obj)) → @LT.lt Nat _ p.1 _) => hq9; first | replace hq9 := ltN (hq9 p9 hp9) | clear hq9) | (with_reducible rename AllLt _ _ => hq9; first | replace hq9 := ltN (ktn_ltOf hq9 p9 hp9) | clear hq9) | (with_reducible rename (_ ∧ AllLt _ _) => hq9; obtain ⟨hz9, hq9⟩ := hq9))); (refine neN ?_); omega))
  k_with "k_ne" => ((refine neN ?_; (try dsimp only); first | with_reducible assumption | exact Ne.symm (by with_reducible assumption) | exact ne_above (by with_reducible assumption) (by k_mem) | exact Ne.symm (ne_above (by with_reducible assumption) (by k_mem)) | exact ne_above1 (by with_reducible assumption) (by k_mem) | exact Ne.symm (ne_above1 (by with_reducible assumption) (by k_mem))))
  k_with "room" => (first | exact room_at (by with_reducible assumption) rfl rfl | exact room_at0 (by with_reducible assumption) rfl | exact room_at1 (by with_reducible assumption) rfl rfl)
  k_with "units" => (exact units_at (by with_reducible assumption) rfl rfl)
  k_with "x.p" => (refine' Prem.mk ?_ ?_ ?_ ?_ ?_ ?_ ?_ ?_; rotate_right 8; (focus k_asm); (focus k_asm); (focus k_asm); (focus (k_asm)); (focus k_asm); (focus (first | exact rfl | assumption)); (focus ktr_room); (focus ktr_units))
  k_with "x.pn" => (refine' Prem.mk ?_ ?_ ?_ ?_ ?_ ?_ ?_ ?_; rotate_right 8; (focus k_asm); (focus k_asm); (focus k_asm); (focus (first | k_asm | exact news_rot1 (by k_asm) | exact news_rot2 (by k_asm))); (focus k_asm); (focus (first | exact rfl | assumption)); (focus ktr_room); (focus ktr_units))
  k_with "x.pr" => (refine' Prem.mk ?_ ?_ ?_ ?_ ?_ ?_ ?_ ?_; rotate_right 8; (focus k_asm); (focus k_asm); (focus k_asm); (focus (first | k_asm | exact rot1 (by k_asm) | exact rot2 (by k_asm) | exact rot3 (by k_asm))); (focus k_asm); (focus (first | exact rfl | assumption)); (focus ktr_room); (focus ktr_units))
  k_with "x.t" => (intro t9 h9 tk9 F9 N9; (try dsimp only); (try k_fold))
  k_with "x.2" => (intro x9 t91 t92 h9 tk9 F9 N9 l9; (try k_lt l9); (try dsimp only); (try k_fold))
  k_with "x.3" => (intro x9 t91 t92 t93 h9 tk9 F9 N9 l9; (try k_lt l9); (try dsimp only); (try k_fold))
  k_with "x.4" => (intro x9 t91 t92 t93 t94 h9 tk9 F9 N9 l9; (try k_lt l9); (try dsimp only); (try k_fold))
  k_with "x.tt" => (intro t9 t91 h9 tk9 F9 N9; (try dsimp only); (try k_fold))
  k_with "x.take" => (intro d9 a9 b9 t9 t91 t92 n9 h9 tk9 hd0 hd1 ha9 hb9 hb99 F9 N9; (have hb9' := And.intro hb9 hb99); (try dsimp only); (try k_fold))
  k_with "x.r" => (intro e9 t9 ws9 h9 tk9 G9 FG9 R9 U9; (try dsimp only); (try k_fold))
  k_with "x.c" => (intro h9 tk9 g9 T9 F9 N9 B9 X9 P9 D9; (try dsimp only); (try k_fold))
  k_with "eval Name" => ((k_here; (first | ((with_reducible show wpAny _ _ (eval (Expr.Name _ _) (compEnvC _ _ _ _)) _ _ _); k_dflt (first | (name_kind "local"; refine' LCgL.ld_own ?_ ?_ ?_ ?_ ?_ ?_ ?_ ?_; rotate_right 8; rotate_left 6; (focus (first | kernel_rfl! | rfl)); rotate_right 6; rotate_left 5; (focus (rfl)); rotate_right 5; rotate_left 5; (focus (decide)); rotate_right 5; (focus (k_asm)); (focus (k_mem)); (focus (assumption)); (focus (assumption))) | (name_kind "globalImplicit"; first | (refine' LCgL.ld_global ?_ ?_ ?_ ?_ ?_ ?_ ?_ ?_ ?_; rotate_right 9; rotate_left 7; (focus (first | kernel_rfl! | rfl)); rotate_right 7; (focus (k_asm)); (focus (k_asm)); (focus (k_asm)); (focus (k_is)); rotate_left 1; (focus (rfl)); rotate_right 1; rotate_left 1; (focus (rfl)); rotate_right 1; rotate_left 1; (focus (decide)); rotate_right 1) | (refine' LCgL.ld_built ?_ ?_ ?_ ?_ ?_ ?_ ?_ ?_ ?_ ?_ ?_ ?_; rotate_right 12; rotate_left 10; (focus (first | kernel_rfl! | rfl)); rotate_right 10; (focus (k_asm)); (focus (k_asm)); (focus (k_asm)); (focus (k_is)); (focus (boot_by_name)); (focus (decide)); rotate_left 1; (focus (rfl)); rotate_right 1; rotate_left 1; (focus (rfl)); rotate_right 1; rotate_left 1; (focus (rfl)); rotate_right 1; rotate_left 1; (focus (decide)); rotate_right 1))) ) | ((fail_if_success (with_reducible show wpAny _ _ (eval (Expr.Name _ _) (compEnvC _ _ _ _)) _ _ _)); k_dflt (first | (name_kind "local"; refine' nameX_L ?_ ?_ ?_ ?_ ?_; rotate_right 5; rotate_left 4; (focus (first | kernel_rfl! | rfl)); rotate_right 4; rotate_left 3; (focus (rfl)); rotate_right 3; (focus (k_asm)); (focus (rfl)); k_whole) | (name_kind "globalImplicit"; first | (refine' nameX_K ?_ ?_ ?_ ?_ ?_ ?_ ?_; rotate_right 7; rotate_left 6; (focus (first | kernel_rfl! | rfl)); rotate_right 6; (focus (k_asm)); (focus (k_asm)); (focus (k_asm)); rotate_left 2; (focus (rfl)); rotate_right 2; (focus (k_is)); k_whole) | (refine' nameX_B ?_ ?_ ?_ ?_ ?_ ?_ ?_ ?_ ?_; rotate_right 9; rotate_left 8; (focus (first | kernel_rfl! | rfl)); rotate_right 8; (focus (k_asm)); (focus (k_asm)); (focus (k_asm)); rotate_left 4; (focus (rfl)); rotate_right 4; (focus (k_is)); (focus (boot_fast)); (focus (decide)); k_whole)) | (name_kind "cell"; refine' nameX_C ?_ ?_ ?_ ?_ ?_ ?_ ?_; rotate_right 7; rotate_left 6; (focus (first | kernel_rfl! | rfl)); rotate_right 6; rotate_left 5; (focus (rfl)); rotate_right 5; (focus (k_asm)); (focus (rfl)); (focus (k_mem)); (focus (k_asm)); k_whole))))))
  k_with "fold" => ((fail_if_success (fail_if_success k_fold)); (refine (let qk := _; let ek := _; (?_ : wpAny _ _ _ qk ek _))))
  k_with "isTrue BoolOp" => (k_here; k_extra "fold")
  k_with "isTrue Compare" => (k_here; k_extra "fold")
  k_with "isTrue UnaryOp" => (k_here; k_extra "fold")
  k_with "eval Call" => (k_here; k_extra "fold")
  k_with "eval Compare" => (k_here; k_extra "fold")
  k_with "eval BinOp" => (k_here; k_extra "fold")
  k_with "eval Tuple" => (k_here; k_extra "fold")
  k_with "eval List" => (k_here; k_extra "fold")
  trivial
theorem low_sum (l : List Nat) : ((l.map lowC).map (·.length)).sum = l.length := by
  induction l with
  | nil => rfl
  | cons c r ih =>
    have : (lowC c).length = 1 := by unfold lowC; split <;> rfl
    simp only [List.map_cons, List.sum_cons, List.length_cons, ih, this]
    omega
example : True := by
  k_with "eval ListComp" => ((k_here; k_dflt (refine ListComp_M (by k_asm) (by with_unfolding_all rfl) (by decide) (by rfl) (by decide) (by rfl) ?_)))
  trivial
example : True := by
  k_with "MySrc" => ((refine stopHere ?_))
  trivial
set_option maxHeartbeats 4000000 in
theorem lowered_is (x : Str) (t1 : Tok) (hx : x.length ≤ 100) (ha : ∀ c ∈ x.cps.toList, c < 128) (news : List (Addr × Obj)) :
    CallOf w mean mg mb 195 [.str x t1] 1 news (fun h₀ L m s Q => CbRet h₀ L m news s Q fun t => .str (lowS x) t) := by
  dsimp only [CallOf]
  intro dp un gd cn cs a9 ccd cl outer A₀ base h₀ L m s Q E B F X N T hk hd9 hu9 hret
  suffices hz : (laid.heap_1 = laid.heap_1 → PySem.Challenge.rw_nu0021_01 = PySem.Challenge.rw_nu0021_01 → _) from hz rfl rfl
  k_fill
  intro _ _
  refine wpAny_call ?_
  k_dflt (refine' code_def ?k1 ?k2 ?k3 ?k4 ?k5 ?kA ?kF ?kK ?k6 ?k7 ?k8 ?k9 ?kB ?_ ?c2 ?c3 ?c4 ?c5; (case kA => exact rfl); (case kF => exact rfl); (case kK => assumption); (case k1 => k_asm); (case k2 => k_asm); (case k3 => k_asm); (case k4 => k_asm); (case k5 => k_asm); (case k6 => k_is); (case k7 => k_is); (case k8 => ktr_room); (case k9 => first | exact BindsTo.of_eq rfl | exact binds_K (by k_in) rfl (by k_is) rfl rfl rfl); (case c5 => decide); (case kB => exact locs rfl); (case c2 => exact rfl); (case c3 => exact rfl); (case c4 => exact rfl); k_whole; intro g' L' h' FG' F' N' B' X' T'; (try dsimp only); (try k_lift B'); (try k_fold))
  k_steps
  refine Wrap.mk ?_
  refine MySrc.text rfl (by assumption) (by assumption) (by have : x.cps.size ≤ 100 := hx; rw [sizeLine_eq]; omega) ?_
  intro g9
  refine rest_map lowC ?_ ?_ _ 0 [] (Nat.zero_add _) .nil
  · intro c u ys I oI C oC D m₂ h tk E' hc hC hx' F1 N1 off ap
    have hc128 := ha c hc
    have eA : (Str.ofString "A").cps.toList = [65] := by decide +kernel
    have eZ : (Str.ofString "Z").cps.toList = [90] := by decide +kernel
    k_steps
    · have q1 : ({ cps := #[c] } : Str).cps.toList < (Str.ofString "A").cps.toList := by assumption
      rw [eA] at q1
      have q2 := lt_one q1
      exact MapEnd.intro (by unfold lowC; rw [if_neg (by omega)]) (by assumption) (by assumption)
    · have q1 : (Str.ofString "Z").cps.toList < ({ cps := #[c] } : Str).cps.toList := by assumption
      rw [eZ] at q1
      have q2 := lt_one q1
      exact MapEnd.intro (by unfold lowC; rw [if_neg (by omega)]) (by assumption) (by assumption)
    · have q1 : ¬ (Str.ofString "Z").cps.toList < ({ cps := #[c] } : Str).cps.toList := by assumption
      have q3 : ¬ ({ cps := #[c] } : Str).cps.toList < (Str.ofString "A").cps.toList := by assumption
      rw [eZ] at q1
      rw [eA] at q3
      have q2 := ge_one q1
      have q4 := ge_one q3
      refine MapEnd.intro ?_ (by assumption) (by assumption)
      unfold lowC
      rw [if_pos ⟨q4, q2⟩]
      have : ((c : Int) + 32).toNat = c + 32 := by omega
      rw [this]
  · intro ys hys
    k_steps
    refine join_listW (News.isList (by assumption) (List.Mem.head _)) (by simpa using hys) (by decide +kernel) ?_ ?_
    · have hs : x.cps.size ≤ 100 := hx
      rw [low_sum, List.length_map, Array.length_toList]
      omega
    · intro t' k'
      k_steps
      refine cb_retS hret rfl (by assumption) ?_
      exact cb_drop (by assumption) (fun p hp => by repeat (first | exact hp | refine List.mem_cons_of_mem _ ?_))
end

section
example : True := by
  k_with_none
  k_with "k_all" => (first | assumption | (intro p9 hp9; (repeat' (first | (with_reducible rename (∀ p : Addr × Obj, p ∈ (_ : List (Addr × Obj)) → @LT.lt Nat _ p.1 _) => hq9; first | replace hq9 := ltN (hq9 p9 hp9) | clear hq9) | (with_reducible rename AllLt _ _ => hq9; first | replace hq9 := ltN (ktn_ltOf hq9 p9 hp9) | clear hq9) | (with_reducible rename (_ ∧ AllLt _ _) => hq9; obtain ⟨hz9, hq9⟩ := hq9))); (refine neN ?_); omega))
  k_with "k_ne" => ((refine neN ?_; (try dsimp only); first | with_reducible assumption | exact Ne.symm (by with_reducible assumption) | exact ne_above (by with_reducible assumption) (by k_mem) | exact Ne.symm (ne_above (by with_reducible assumption) (by k_mem)) | exact ne_above1 (by with_reducible assumption) (by k_mem) | exact Ne.symm (ne_above1 (by with_reducible assumption) (by k_mem))))
  k_with "room" => (first | exact room_at (by with_reducible assumption) rfl rfl | exact room_at0 (by with_reducible assumption) rfl | exact room_at1 (by with_reducible assumption) rfl rfl)
  k_with "units" => (exact units_at (by with_reducible assumption) rfl rfl)
  k_with "x.p" => (refine' Prem.mk ?_ ?_ ?_ ?_ ?_ ?_ ?_ ?_; rotate_right 8; (focus k_asm); (focus k_asm); (focus k_asm); (focus (k_asm)); (focus k_asm); (focus (first | exact rfl | assumption)); (focus ktr_room); (focus ktr_units))
  k_with "x.pn" => (refine' Prem.mk ?_ ?_ ?_ ?_ ?_ ?_ ?_ ?_; rotate_right 8; (focus k_asm); (focus k_asm); (focus k_asm); (focus (first | k_asm | exact news_rot1 (by k_asm) | exact news_rot2 (by k_asm))); (focus k_asm); (focus (first | exact rfl | assumption)); (focus ktr_room); (focus ktr_units))
  k_with "x.pr" => (refine' Prem.mk ?_ ?_ ?_ ?_ ?_ ?_ ?_ ?_; rotate_right 8; (focus k_asm); (focus k_asm); (focus k_asm); (focus (first | k_asm | exact rot1 (by k_asm) | exact rot2 (by k_asm) | exact rot3 (by k_asm))); (focus k_asm); (focus (first | exact rfl | assumption)); (focus ktr_room); (focus ktr_units))
  k_with "x.t" => (intro t9 h9 tk9 F9 N9; (try dsimp only); (try k_fold))
  k_with "x.2" => (intro x9 t91 t92 h9 tk9 F9 N9 l9; (try k_lt l9); (try dsimp only); (try k_fold))
  k_with "x.3" => (intro x9 t91 t92 t93 h9 tk9 F9 N9 l9; (try k_lt l9); (try dsimp only); (try k_fold))
  k_with "x.4" => (intro x9 t91 t92 t93 t94 h9 tk9 F9 N9 l9; (try k_lt l9); (try dsimp only); (try k_fold))
  k_with "x.tt" => (intro t9 t91 h9 tk9 F9 N9; (try dsimp only); (try k_fold))
  k_with "x.take" => (intro d9 a9 b9 t9 t91 t92 n9 h9 tk9 hd0 hd1 ha9 hb9 hb99 F9 N9; (have hb9' := And.intro hb9 hb99); (try dsimp only); (try k_fold))
  k_with "x.r" => (intro e9 t9 ws9 h9 tk9 G9 FG9 R9 U9; (try dsimp only); (try k_fold))
  k_with "x.c" => (intro h9 tk9 g9 T9 F9 N9 B9 X9 P9 D9; (try dsimp only); (try k_fold))
  k_with "eval Name" => ((k_here; (first | ((with_reducible show wpAny _ _ (eval (Expr.Name _ _) (compEnvC _ _ _ _)) _ _ _); k_dflt (first | (name_kind "local"; refine' LCgL.ld_own ?_ ?_ ?_ ?_ ?_ ?_ ?_ ?_; rotate_right 8; rotate_left 6; (focus (first | kernel_rfl! | rfl)); rotate_right 6; rotate_left 5; (focus (rfl)); rotate_right 5; rotate_left 5; (focus (decide)); rotate_right 5; (focus (k_asm)); (focus (k_mem)); (focus (assumption)); (focus (assumption))) | (name_kind "globalImplicit"; first | (refine' LCgL.ld_global ?_ ?_ ?_ ?_ ?_ ?_ ?_ ?_ ?_; rotate_right 9; rotate_left 7; (focus (first | kernel_rfl! | rfl)); rotate_right 7; (focus (k_asm)); (focus (k_asm)); (focus (k_asm)); (focus (k_is)); rotate_left 1; (focus (rfl)); rotate_right 1; rotate_left 1; (focus (rfl)); rotate_right 1; rotate_left 1; (focus (decide)); rotate_right 1) | (refine' LCgL.ld_built ?_ ?_ ?_ ?_ ?_ ?_ ?_ ?_ ?_ ?_ ?_ ?_; rotate_right 12; rotate_left 10; (focus (first | kernel_rfl! | rfl)); rotate_right 10; (focus (k_asm)); (focus (k_asm)); (focus (k_asm)); (focus (k_is)); (focus (boot_by_name)); (focus (decide)); rotate_left 1; (focus (rfl)); rotate_right 1; rotate_left 1; (focus (rfl)); rotate_right 1; rotate_left 1; (focus (rfl)); rotate_right 1; rotate_left 1; (focus (decide)); rotate_right 1))) ) | ((fail_if_success (with_reducible show wpAny _ _ (eval (Expr.Name _ _) (compEnvC _ _ _ _)) _ _ _)); k_dflt (first | (name_kind "local"; refine' nameX_L ?_ ?_ ?_ ?_ ?_; rotate_right 5; rotate_left 4; (focus (first | kernel_rfl! | rfl)); rotate_right 4; rotate_left 3; (focus (rfl)); rotate_right 3; (focus (k_asm)); (focus (rfl)); k_whole) | (name_kind "globalImplicit"; first | (refine' nameX_K ?_ ?_ ?_ ?_ ?_ ?_ ?_; rotate_right 7; rotate_left 6; (focus (first | kernel_rfl! | rfl)); rotate_right 6; (focus (k_asm)); (focus (k_asm)); (focus (k_asm)); rotate_left 2; (focus (rfl)); rotate_right 2; (focus (k_is)); k_whole) | (refine' nameX_B ?_ ?_ ?_ ?_ ?_ ?_ ?_ ?_ ?_; rotate_right 9; rotate_left 8; (focus (first | kernel_rfl! | rfl)); rotate_right 8; (focus (k_asm)); (focus (k_asm)); (focus (k_asm)); rotate_left 4; (focus (rfl)); rotate_right 4; (focus (k_is)); (focus (boot_fast)); (focus (decide)); k_whole)) | (name_kind "cell"; refine' nameX_C ?_ ?_ ?_ ?_ ?_ ?_ ?_; rotate_right 7; rotate_left 6; (focus (first | kernel_rfl! | rfl)); rotate_right 6; rotate_left 5; (focus (rfl)); rotate_right 5; (focus (k_asm)); (focus (rfl)); (focus (k_mem)); (focus (k_asm)); k_whole))))))
  k_with "fold" => ((fail_if_success (fail_if_success k_fold)); (refine (let qk := _; let ek := _; (?_ : wpAny _ _ _ qk ek _))))
  k_with "isTrue BoolOp" => (k_here; k_extra "fold")
  k_with "isTrue Compare" => (k_here; k_extra "fold")
  k_with "isTrue UnaryOp" => (k_here; k_extra "fold")
  k_with "eval Call" => (k_here; k_extra "fold")
  k_with "eval Compare" => (k_here; k_extra "fold")
  k_with "eval BinOp" => (k_here; k_extra "fold")
  k_with "eval Tuple" => (k_here; k_extra "fold")
  k_with "eval List" => (k_here; k_extra "fold")
  trivial
noncomputable def isHexB (c : Nat) : Bool := (48 <= c && c <= 57) || (97 <= c && c <= 102)
theorem find_hex {c : Nat} (h : isHex c) : Txt.find (Str.ofString "0123456789abcdef") ⟨#[c]⟩ = hexV c := by
  have q : ∀ k : Fin 103, isHexB (k : Nat) = true → Txt.find (Str.ofString "0123456789abcdef") ⟨#[(k : Nat)]⟩ = hexV (k : Nat) := by decide +kernel
  have hk : c < 103 := by rcases h with h | h <;> omega
  exact q ⟨c, hk⟩ (by unfold isHexB; rcases h with h | h <;> simp <;> omega)
theorem hexV_nn {c : Nat} (h : isHex c) : 0 ≤ hexV c ∧ hexV c < 16 := by
  unfold hexV
  rcases h with h | h <;> split <;> omega
theorem item0 (a b : Nat) : Txt.item ⟨#[a, b]⟩ 0 = ⟨#[a]⟩ := rfl
theorem item1 (a b : Nat) : Txt.item ⟨#[a, b]⟩ 1 = ⟨#[b]⟩ := rfl
set_option maxHeartbeats 4000000 in
theorem byte_is (a b : Nat) (t1 : Tok) (ha : isHex a) (hb : isHex b) (news : List (Addr × Obj)) :
    CallOf w mean mg mb 202 [.str ⟨#[a, b]⟩ t1] 1 news (fun h₀ L m s Q => CbRet h₀ L m news s Q fun t => .int (16 * hexV a + hexV b) t) := by
  have fa := find_hex ha
  have fb := find_hex hb
  have la : (⟨#[a, b]⟩ : Str).length = 2 := rfl
  dsimp only [CallOf]
  intro dp un gd cn cs a9 ccd cl outer A₀ base h₀ L m s Q E B F X N T hk hd9 hu9 hret
  suffices hz : (laid.heap_1 = laid.heap_1 → PySem.Challenge.rw_nu0021_01 = PySem.Challenge.rw_nu0021_01 → _) from hz rfl rfl
  k_fill
  intro _ _
  refine wpAny_call ?_
  k_dflt (refine' code_def ?k1 ?k2 ?k3 ?k4 ?k5 ?kA ?kF ?kK ?k6 ?k7 ?k8 ?k9 ?kB ?_ ?c2 ?c3 ?c4 ?c5; (case kA => exact rfl); (case kF => exact rfl); (case kK => assumption); (case k1 => k_asm); (case k2 => k_asm); (case k3 => k_asm); (case k4 => k_asm); (case k5 => k_asm); (case k6 => k_is); (case k7 => k_is); (case k8 => ktr_room); (case k9 => first | exact BindsTo.of_eq rfl | exact binds_K (by k_in) rfl (by k_is) rfl rfl rfl); (case c5 => decide); (case kB => exact locs rfl); (case c2 => exact rfl); (case c3 => exact rfl); (case c4 => exact rfl); k_whole; intro g' L' h' FG' F' N' B' X' T'; (try dsimp only); (try k_lift B'); (try k_fold))
  have na := hexV_nn ha
  have nb := hexV_nn hb
  k_steps
  · have hz : Txt.find (Str.ofString "0123456789abcdef") (Txt.item { cps := #[a, b] } 0) = -1 := by assumption
    rw [item0, fa] at hz
    omega
  · have hz : Txt.find (Str.ofString "0123456789abcdef") (Txt.item { cps := #[a, b] } 1) = -1 := by assumption
    rw [item1, fb] at hz
    omega
  · refine cb_retI hret ?_ (by assumption) (by assumption)
    rw [item0, item1, fa, fb]
end

section
example : True := by
  k_with_none
  k_with "k_all" => (first | assumption | (intro p9 hp9; (repeat' (first | (with_reducible rename (∀ p : Addr × Obj, p ∈ (_ : List (Addr × Obj)) → @LT.lt Nat _ p.1 _) => hq9; first | replace hq9 := ltN (hq9 p9 hp9) | clear hq9) | (with_reducible rename AllLt _ _ => hq9; first | replace hq9 := ltN (ktn_ltOf hq9 p9 hp9) | clear hq9) | (with_reducible rename (_ ∧ AllLt _ _) => hq9; obtain ⟨hz9, hq9⟩ := hq9))); (refine neN ?_); omega))
  k_with "k_ne" => ((refine neN ?_; (try dsimp only); first | with_reducible assumption | exact Ne.symm (by with_reducible assumption) | exact ne_above (by with_reducible assumption) (by k_mem) | exact Ne.symm (ne_above (by with_reducible assumption) (by k_mem)) | exact ne_above1 (by with_reducible assumption) (by k_mem) | exact Ne.symm (ne_above1 (by with_reducible assumption) (by k_mem))))
  k_with "room" => (first | exact room_at (by with_reducible assumption) rfl rfl | exact room_at0 (by with_reducible assumption) rfl | exact room_at1 (by with_reducible assumption) rfl rfl)
  k_with "units" => (exact units_at (by with_reducible assumption) rfl rfl)
  k_with "x.p" => (refine' Prem.mk ?_ ?_ ?_ ?_ ?_ ?_ ?_ ?_; rotate_right 8; (focus k_asm); (focus k_asm); (focus k_asm); (focus (k_asm)); (focus k_asm); (focus (first | exact rfl | assumption)); (focus ktr_room); (focus ktr_units))
  k_with "x.pn" => (refine' Prem.mk ?_ ?_ ?_ ?_ ?_ ?_ ?_ ?_; rotate_right 8; (focus k_asm); (focus k_asm); (focus k_asm); (focus (first | k_asm | exact news_rot1 (by k_asm) | exact news_rot2 (by k_asm))); (focus k_asm); (focus (first | exact rfl | assumption)); (focus ktr_room); (focus ktr_units))
  k_with "x.pr" => (refine' Prem.mk ?_ ?_ ?_ ?_ ?_ ?_ ?_ ?_; rotate_right 8; (focus k_asm); (focus k_asm); (focus k_asm); (focus (first | k_asm | exact rot1 (by k_asm) | exact rot2 (by k_asm) | exact rot3 (by k_asm))); (focus k_asm); (focus (first | exact rfl | assumption)); (focus ktr_room); (focus ktr_units))
  k_with "x.t" => (intro t9 h9 tk9 F9 N9; (try dsimp only); (try k_fold))
  k_with "x.2" => (intro x9 t91 t92 h9 tk9 F9 N9 l9; (try k_lt l9); (try dsimp only); (try k_fold))
  k_with "x.3" => (intro x9 t91 t92 t93 h9 tk9 F9 N9 l9; (try k_lt l9); (try dsimp only); (try k_fold))
  k_with "x.4" => (intro x9 t91 t92 t93 t94 h9 tk9 F9 N9 l9; (try k_lt l9); (try dsimp only); (try k_fold))
  k_with "x.tt" => (intro t9 t91 h9 tk9 F9 N9; (try dsimp only); (try k_fold))
  k_with "x.take" => (intro d9 a9 b9 t9 t91 t92 n9 h9 tk9 hd0 hd1 ha9 hb9 hb99 F9 N9; (have hb9' := And.intro hb9 hb99); (try dsimp only); (try k_fold))
  k_with "x.r" => (intro e9 t9 ws9 h9 tk9 G9 FG9 R9 U9; (try dsimp only); (try k_fold))
  k_with "x.c" => (intro h9 tk9 g9 T9 F9 N9 B9 X9 P9 D9; (try dsimp only); (try k_fold))
  k_with "eval Name" => ((k_here; (first | ((with_reducible show wpAny _ _ (eval (Expr.Name _ _) (compEnvC _ _ _ _)) _ _ _); k_dflt (first | (name_kind "local"; refine' LCgL.ld_own ?_ ?_ ?_ ?_ ?_ ?_ ?_ ?_; rotate_right 8; rotate_left 6; (focus (first | kernel_rfl! | rfl)); rotate_right 6; rotate_left 5; (focus (rfl)); rotate_right 5; rotate_left 5; (focus (decide)); rotate_right 5; (focus (k_asm)); (focus (k_mem)); (focus (assumption)); (focus (assumption))) | (name_kind "globalImplicit"; first | (refine' LCgL.ld_global ?_ ?_ ?_ ?_ ?_ ?_ ?_ ?_ ?_; rotate_right 9; rotate_left 7; (focus (first | kernel_rfl! | rfl)); rotate_right 7; (focus (k_asm)); (focus (k_asm)); (focus (k_asm)); (focus (k_is)); rotate_left 1; (focus (rfl)); rotate_right 1; rotate_left 1; (focus (rfl)); rotate_right 1; rotate_left 1; (focus (decide)); rotate_right 1) | (refine' LCgL.ld_built ?_ ?_ ?_ ?_ ?_ ?_ ?_ ?_ ?_ ?_ ?_ ?_; rotate_right 12; rotate_left 10; (focus (first | kernel_rfl! | rfl)); rotate_right 10; (focus (k_asm)); (focus (k_asm)); (focus (k_asm)); (focus (k_is)); (focus (boot_by_name)); (focus (decide)); rotate_left 1; (focus (rfl)); rotate_right 1; rotate_left 1; (focus (rfl)); rotate_right 1; rotate_left 1; (focus (rfl)); rotate_right 1; rotate_left 1; (focus (decide)); rotate_right 1))) ) | ((fail_if_success (with_reducible show wpAny _ _ (eval (Expr.Name _ _) (compEnvC _ _ _ _)) _ _ _)); k_dflt (first | (name_kind "local"; refine' nameX_L ?_ ?_ ?_ ?_ ?_; rotate_right 5; rotate_left 4; (focus (first | kernel_rfl! | rfl)); rotate_right 4; rotate_left 3; (focus (rfl)); rotate_right 3; (focus (k_asm)); (focus (rfl)); k_whole) | (name_kind "globalImplicit"; first | (refine' nameX_K ?_ ?_ ?_ ?_ ?_ ?_ ?_; rotate_right 7; rotate_left 6; (focus (first | kernel_rfl! | rfl)); rotate_right 6; (focus (k_asm)); (focus (k_asm)); (focus (k_asm)); rotate_left 2; (focus (rfl)); rotate_right 2; (focus (k_is)); k_whole) | (refine' nameX_B ?_ ?_ ?_ ?_ ?_ ?_ ?_ ?_ ?_; rotate_right 9; rotate_left 8; (focus (first | kernel_rfl! | rfl)); rotate_right 8; (focus (k_asm)); (focus (k_asm)); (focus (k_asm)); rotate_left 4; (focus (rfl)); rotate_right 4; (focus (k_is)); (focus (boot_fast)); (focus (decide)); k_whole)) | (name_kind "cell"; refine' nameX_C ?_ ?_ ?_ ?_ ?_ ?_ ?_; rotate_right 7; rotate_left 6; (focus (first | kernel_rfl! | rfl)); rotate_right 6; rotate_left 5; (focus (rfl)); rotate_right 5; (focus (k_asm)); (focus (rfl)); (focus (k_mem)); (focus (k_asm)); k_whole))))))
  k_with "fold" => ((fail_if_success (fail_if_success k_fold)); (refine (let qk := _; let ek := _; (?_ : wpAny _ _ _ qk ek _))))
  k_with "isTrue BoolOp" => (k_here; k_extra "fold")
  k_with "isTrue Compare" => (k_here; k_extra "fold")
  k_with "isTrue UnaryOp" => (k_here; k_extra "fold")
  k_with "eval Call" => (k_here; k_extra "fold")
  k_with "eval Compare" => (k_here; k_extra "fold")
  k_with "eval BinOp" => (k_here; k_extra "fold")
  k_with "eval Tuple" => (k_here; k_extra "fold")
  k_with "eval List" => (k_here; k_extra "fold")
  trivial
set_option maxHeartbeats 4000000 in
theorem names_is (news : List (Addr × Obj)) :
    CallOf w mean mg mb 21 [] 1 news (fun h₀ L m s Q => CbRet h₀ L m news s Q fun t => .str longText t) := by
  dsimp only [CallOf]
  intro dp un gd cn cs a9 ccd cl outer A₀ base h₀ L m s Q E B F X N T hk hd9 hu9 hret
  suffices hz : (laid.heap_1 = laid.heap_1 → PySem.Challenge.rw_nu0021_01 = PySem.Challenge.rw_nu0021_01 → _) from hz rfl rfl
  k_fill
  intro _ _
  refine wpAny_call ?_
  k_dflt (refine' code_def ?k1 ?k2 ?k3 ?k4 ?k5 ?kA ?kF ?kK ?k6 ?k7 ?k8 ?k9 ?kB ?_ ?c2 ?c3 ?c4 ?c5; (case kA => exact rfl); (case kF => exact rfl); (case kK => assumption); (case k1 => k_asm); (case k2 => k_asm); (case k3 => k_asm); (case k4 => k_asm); (case k5 => k_asm); (case k6 => k_is); (case k7 => k_is); (case k8 => ktr_room); (case k9 => first | exact BindsTo.of_eq rfl | exact binds_K (by k_in) rfl (by k_is) rfl rfl rfl); (case c5 => decide); (case kB => exact locs rfl); (case c2 => exact rfl); (case c3 => exact rfl); (case c4 => exact rfl); k_whole; intro g' L' h' FG' F' N' B' X' T'; (try dsimp only); (try k_lift B'); (try k_fold))
  k_steps
  refine cb_retS hret ?_ (by assumption) (by assumption)
  exact longText_is
end

section
example : True := by
  k_with_none
  k_with "k_all" => (first | assumption | (intro p9 hp9; (repeat' (first | (with_reducible rename (∀ p : Addr × Obj, p ∈ (_ : List (Addr × Obj)) → @LT.lt Nat _ p.1 _) => hq9; first | replace hq9 := ltN (hq9 p9 hp9) | clear hq9) | (with_reducible rename AllLt _ _ => hq9; first | replace hq9 := ltN (ktn_ltOf hq9 p9 hp9) | clear hq9) | (with_reducible rename (_ ∧ AllLt _ _) => hq9; obtain ⟨hz9, hq9⟩ := hq9))); (refine neN ?_); omega))
  k_with "k_ne" => ((refine neN ?_; (try dsimp only); first | with_reducible assumption | exact Ne.symm (by with_reducible assumption) | exact ne_above (by with_reducible assumption) (by k_mem) | exact Ne.symm (ne_above (by with_reducible assumption) (by k_mem)) | exact ne_above1 (by with_reducible assumption) (by k_mem) | exact Ne.symm (ne_above1 (by with_reducible assumption) (by k_mem))))
  k_with "room" => (first | exact room_at (by with_reducible assumption) rfl rfl | exact room_at0 (by with_reducible assumption) rfl | exact room_at1 (by with_reducible assumption) rfl rfl)
  k_with "units" => (exact units_at (by with_reducible assumption) rfl rfl)
  k_with "x.p" => (refine' Prem.mk ?_ ?_ ?_ ?_ ?_ ?_ ?_ ?_; rotate_right 8; (focus k_asm); (focus k_asm); (focus k_asm); (focus (k_asm)); (focus k_asm); (focus (first | exact rfl | assumption)); (focus ktr_room); (focus ktr_units))
  k_with "x.pn" => (refine' Prem.mk ?_ ?_ ?_ ?_ ?_ ?_ ?_ ?_; rotate_right 8; (focus k_asm); (focus k_asm); (focus k_asm); (focus (first | k_asm | exact news_rot1 (by k_asm) | exact news_rot2 (by k_asm))); (focus k_asm); (focus (first | exact rfl | assumption)); (focus ktr_room); (focus ktr_units))
  k_with "x.pr" => (refine' Prem.mk ?_ ?_ ?_ ?_ ?_ ?_ ?_ ?_; rotate_right 8; (focus k_asm); (focus k_asm); (focus k_asm); (focus (first | k_asm | exact rot1 (by k_asm) | exact rot2 (by k_asm) | exact rot3 (by k_asm))); (focus k_asm); (focus (first | exact rfl | assumption)); (focus ktr_room); (focus ktr_units))
  k_with "x.t" => (intro t9 h9 tk9 F9 N9; (try dsimp only); (try k_fold))
  k_with "x.2" => (intro x9 t91 t92 h9 tk9 F9 N9 l9; (try k_lt l9); (try dsimp only); (try k_fold))
  k_with "x.3" => (intro x9 t91 t92 t93 h9 tk9 F9 N9 l9; (try k_lt l9); (try dsimp only); (try k_fold))
  k_with "x.4" => (intro x9 t91 t92 t93 t94 h9 tk9 F9 N9 l9; (try k_lt l9); (try dsimp only); (try k_fold))
  k_with "x.tt" => (intro t9 t91 h9 tk9 F9 N9; (try dsimp only); (try k_fold))
  k_with "x.take" => (intro d9 a9 b9 t9 t91 t92 n9 h9 tk9 hd0 hd1 ha9 hb9 hb99 F9 N9; (have hb9' := And.intro hb9 hb99); (try dsimp only); (try k_fold))
  k_with "x.r" => (intro e9 t9 ws9 h9 tk9 G9 FG9 R9 U9; (try dsimp only); (try k_fold))
  k_with "x.c" => (intro h9 tk9 g9 T9 F9 N9 B9 X9 P9 D9; (try dsimp only); (try k_fold))
  k_with "eval Name" => ((k_here; (first | ((with_reducible show wpAny _ _ (eval (Expr.Name _ _) (compEnvC _ _ _ _)) _ _ _); k_dflt (first | (name_kind "local"; refine' LCgL.ld_own ?_ ?_ ?_ ?_ ?_ ?_ ?_ ?_; rotate_right 8; rotate_left 6; (focus (first | kernel_rfl! | rfl)); rotate_right 6; rotate_left 5; (focus (rfl)); rotate_right 5; rotate_left 5; (focus (decide)); rotate_right 5; (focus (k_asm)); (focus (k_mem)); (focus (assumption)); (focus (assumption))) | (name_kind "globalImplicit"; first | (refine' LCgL.ld_global ?_ ?_ ?_ ?_ ?_ ?_ ?_ ?_ ?_; rotate_right 9; rotate_left 7; (focus (first | kernel_rfl! | rfl)); rotate_right 7; (focus (k_asm)); (focus (k_asm)); (focus (k_asm)); (focus (k_is)); rotate_left 1; (focus (rfl)); rotate_right 1; rotate_left 1; (focus (rfl)); rotate_right 1; rotate_left 1; (focus (decide)); rotate_right 1) | (refine' LCgL.ld_built ?_ ?_ ?_ ?_ ?_ ?_ ?_ ?_ ?_ ?_ ?_ ?_; rotate_right 12; rotate_left 10; (focus (first | kernel_rfl! | rfl)); rotate_right 10; (focus (k_asm)); (focus (k_asm)); (focus (k_asm)); (focus (k_is)); (focus (boot_by_name)); (focus (decide)); rotate_left 1; (focus (rfl)); rotate_right 1; rotate_left 1; (focus (rfl)); rotate_right 1; rotate_left 1; (focus (rfl)); rotate_right 1; rotate_left 1; (focus (decide)); rotate_right 1))) ) | ((fail_if_success (with_reducible show wpAny _ _ (eval (Expr.Name _ _) (compEnvC _ _ _ _)) _ _ _)); k_dflt (first | (name_kind "local"; refine' nameX_L ?_ ?_ ?_ ?_ ?_; rotate_right 5; rotate_left 4; (focus (first | kernel_rfl! | rfl)); rotate_right 4; rotate_left 3; (focus (rfl)); rotate_right 3; (focus (k_asm)); (focus (rfl)); k_whole) | (name_kind "globalImplicit"; first | (refine' nameX_K ?_ ?_ ?_ ?_ ?_ ?_ ?_; rotate_right 7; rotate_left 6; (focus (first | kernel_rfl! | rfl)); rotate_right 6; (focus (k_asm)); (focus (k_asm)); (focus (k_asm)); rotate_left 2; (focus (rfl)); rotate_right 2; (focus (k_is)); k_whole) | (refine' nameX_B ?_ ?_ ?_ ?_ ?_ ?_ ?_ ?_ ?_; rotate_right 9; rotate_left 8; (focus (first | kernel_rfl! | rfl)); rotate_right 8; (focus (k_asm)); (focus (k_asm)); (focus (k_asm)); rotate_left 4; (focus (rfl)); rotate_right 4; (focus (k_is)); (focus (boot_fast)); (focus (decide)); k_whole)) | (name_kind "cell"; refine' nameX_C ?_ ?_ ?_ ?_ ?_ ?_ ?_; rotate_right 7; rotate_left 6; (focus (first | kernel_rfl! | rfl)); rotate_right 6; rotate_left 5; (focus (rfl)); rotate_right 5; (focus (k_asm)); (focus (rfl)); (focus (k_mem)); (focus (k_asm)); k_whole))))))
  k_with "fold" => ((fail_if_success (fail_if_success k_fold)); (refine (let qk := _; let ek := _; (?_ : wpAny _ _ _ qk ek _))))
  k_with "isTrue BoolOp" => (k_here; k_extra "fold")
  k_with "isTrue Compare" => (k_here; k_extra "fold")
  k_with "isTrue UnaryOp" => (k_here; k_extra "fold")
  k_with "eval Call" => (k_here; k_extra "fold")
  k_with "eval Compare" => (k_here; k_extra "fold")
  k_with "eval BinOp" => (k_here; k_extra "fold")
  k_with "eval Tuple" => (k_here; k_extra "fold")
  k_with "eval List" => (k_here; k_extra "fold")
  trivial
noncomputable def lookV (x : Str) (ws : List Str) (t : Tok) : Value := match lookW x ws with
  | some v => .str v t
  | none => .none
theorem lookW_hit (x v : Str) : ∀ (i : Nat) (ws : List Str), (∀ j < i, ws[2 * j]? ≠ some x) → ws[2 * i]? = some x → ws[2 * i + 1]? = some v → lookW x ws = some v
  | 0, k :: a :: r, _, h1, h2 => by
    have h1' : k = x := Option.some.inj h1
    have h2' : a = v := Option.some.inj h2
    rw [lookW, if_pos h1', h2']
  | 0, [k], _, _, h2 => nomatch h2
  | 0, [], _, h1, _ => nomatch h1
  | i + 1, [], _, h1, _ => by simp at h1
  | i + 1, [k], _, h1, _ => by simp [show 2 * (i + 1) = 2 * i + 1 + 1 by omega] at h1
  | i + 1, k :: a :: r, hn, h1, h2 => by
    have h0 : k ≠ x := fun e => hn 0 (by omega) (by rw [← e]; rfl)
    rw [lookW, if_neg h0]
    refine lookW_hit x v i r (fun j hj q => hn (j + 1) (by omega) ?_) ?_ ?_
    · rw [show 2 * (j + 1) = 2 * j + 1 + 1 by omega]; exact q
    · rw [show 2 * (i + 1) = 2 * i + 1 + 1 by omega] at h1; exact h1
    · rw [show 2 * (i + 1) + 1 = 2 * i + 1 + 1 + 1 by omega] at h2; exact h2
theorem lookW_miss (x : Str) : ∀ (n : Nat) (ws : List Str), ws.length ≤ 2 * n → (∀ j < n, ws[2 * j]? ≠ some x) → lookW x ws = none
  | _, [], _, _ => rfl
  | _, [k], _, _ => rfl
  | 0, k :: a :: r, h, _ => by simp at h
  | n + 1, k :: a :: r, h, hn => by
    have h0 : k ≠ x := fun e => hn 0 (by omega) (by rw [← e]; rfl)
    rw [lookW, if_neg h0]
    refine lookW_miss x n r (by simp only [List.length_cons] at h; omega) (fun j hj q => hn (j + 1) (by omega) ?_)
    rw [show 2 * (j + 1) = 2 * j + 1 + 1 by omega]; exact q
theorem strv_at {l : List (Str × Tok)} {i : Nat} {v : Value} (h : (strValues l)[i]? = some v) : ∃ x t, v = .str x t ∧ (l.map (·.1))[i]? = some x := by
  unfold strValues at h
  rw [List.getElem?_map] at h
  cases q : l[i]? with
  | none => rw [q] at h; cases h
  | some p =>
    rw [q] at h
    cases h
    exact ⟨p.1, p.2, rfl, by rw [List.getElem?_map, q]; rfl⟩
abbrev vMap (x : Str) (t1 : Tok) (D : Addr) (v : Option Value) : Str → Option Value := fun y => if y = Str.ofString "at" then v else if y = Str.ofString "words" then some (.ref D) else List.lookup y [(Str.ofString "name", .str x t1)]
theorem vMap_start (x : Str) (t1 : Tok) (D : Addr) : (fun y => if y = Str.ofString "words" then some (.ref D) else List.lookup y [(Str.ofString "name", .str x t1)]) = vMap x t1 D none := by
  funext y
  unfold vMap
  by_cases h : y = Str.ofString "at"
  · subst h; rw [if_pos rfl]; rfl
  · rw [if_neg h]
theorem vpack {g h : Heap} {L D : Addr} {x : Str} {t1 : Tok} {l : List (Str × Value)} {o : Obj} {news : List (Addr × Obj)} (F : Fr g L h (fun y => if y = Str.ofString "words" then some (.ref D) else List.lookup y l)) (N : News g L h ((D, o) :: news)) (e : l = [(Str.ofString "name", .str x t1)]) :
    ∃ D', Fr g L h (vMap x t1 D' none) ∧ News g L h ((D', o) :: news) := ⟨D, by rw [← vMap_start]; exact e ▸ F, N⟩
theorem vMap_turn (x : Str) (t1 : Tok) (D : Addr) (v v' : Option Value) : (fun y => if y = Str.ofString "at" then v' else vMap x t1 D v y) = vMap x t1 D v' := by
  funext y
  unfold vMap
  by_cases h : y = Str.ofString "at"
  · simp only [if_pos h]
  · simp only [if_neg h]
theorem len_of {l : List (Str × Tok)} {ws : List Str} (h : List.map (fun x => x.fst) l = ws) (hc : ws.length = 294) : l.length = 294 := by
  rw [← hc, ← h, List.length_map]
theorem len_sv (l : List (Str × Tok)) : (strValues l).length = l.length := List.length_map ..
example : True := by
  k_with "subscriptTail" => ((k_here; (with_reducible show wpAny _ _ (subscriptTail _ _ (Value.ref _) (Value.int _ _)) _ _ _); k_dflt (refine' item_of ?_ ?_ ?_ ?_ ?_ ?_; rotate_right 6; (focus (exact News.isList (by k_asm) (by k_mem))); (focus (omega)); (focus ((rw [len_sv]; omega))); (focus ((rw [len_sv]; omega))); rotate_left 1; (focus (with_unfolding_all rfl)); rotate_right 1); intro v9 hv9 hx9; (obtain ⟨x9, t9, e9, hx9'⟩ := strv_at hx9); subst e9))
  trivial
example : True := by
  k_with "call ref" => ((k_here; k_dflt (refine' callBy (names_is _) ?_ ?_; rotate_right 2; (focus (walk_at "x.p")); (all_goals skip); intro t9 h9 tk9 F9 N9; generalize longText = bigT at *; (try dsimp only); (try k_fold))))
  trivial
set_option maxHeartbeats 4000000 in
theorem value_is (x : Str) (t1 : Tok) (hlen : longText.length ≤ 4000) (hcnt : (Txt.split longText (Str.ofString " ")).length = 294) (news : List (Addr × Obj)) :
    CallOf w mean mg mb 28 [.str x t1] 4 news (fun h₀ L m s Q => CbRet h₀ L m news s Q fun t => lookV x (Txt.split longText (Str.ofString " ")) t) := by
  dsimp only [CallOf]
  intro dp un gd cn cs a9 ccd cl outer A₀ base h₀ L m s Q E B F X N T hk hd9 hu9 hret
  suffices hz : (laid.heap_1 = laid.heap_1 → PySem.Challenge.rw_nu0021_01 = PySem.Challenge.rw_nu0021_01 → _) from hz rfl rfl
  k_fill
  intro _ _
  refine wpAny_call ?_
  k_dflt (refine' code_def ?k1 ?k2 ?k3 ?k4 ?k5 ?kA ?kF ?kK ?k6 ?k7 ?k8 ?k9 ?kB ?_ ?c2 ?c3 ?c4 ?c5; (case kA => exact rfl); (case kF => exact rfl); (case kK => assumption); (case k1 => k_asm); (case k2 => k_asm); (case k3 => k_asm); (case k4 => k_asm); (case k5 => k_asm); (case k6 => k_is); (case k7 => k_is); (case k8 => ktr_room); (case k9 => first | exact BindsTo.of_eq rfl | exact binds_K (by k_in) rfl (by k_is) rfl rfl rfl); (case c5 => decide); (case kB => exact locs rfl); (case c2 => exact rfl); (case c3 => exact rfl); (case c4 => exact rfl); k_whole; intro g' L' h' FG' F' N' B' X' T'; (try dsimp only); (try k_lift B'); (try k_fold))
  k_steps
  rename List (Str × Tok) => l
  with_reducible rename _ = Txt.split _ _ => hlook
  with_reducible rename IsRange _ _ _ _ _ _ _ _ => hr
  with_reducible rename Fr _ _ _ _ => F2
  with_reducible rename News _ _ _ _ => N2
  have hl := len_of hlook hcnt
  rw [hl] at hr
  rw [← hlook] at hret
  obtain ⟨D, F3, N3⟩ := vpack (x := x) (t1 := t1) F2 N2 (by with_unfolding_all rfl)
  clear F2 N2
  refine' range_inv (n := 147) (fun i m => ∃ v, m = vMap x t1 D v ∧ ∀ j < i, (List.map (fun x : Str × Tok => x.fst) l)[2 * j]? ≠ some x) rfl F3 N3 hr (by decide) (by decide) ?hj ?ht ?hd
  case' hj => exact ⟨none, rfl, fun j hj => absurd hj (Nat.not_lt_zero _)⟩
  · rintro i u m₁ h tk own hi ⟨v, rfl, hno⟩ F1 N1
    (try dsimp only at *)
    k_steps
    · rename (_ == x) = true => he
      rename (List.map (fun x : Str × Tok => x.fst) l)[(0 + (i : Int) * 2).toNat]? = some _ => ha
      have hb := hx9'
      have ea := eq_of_beq he
      have i1 : (0 + (i : Int) * 2).toNat = 2 * i := by omega
      have i2 : (0 + (i : Int) * 2 + 1).toNat = 2 * i + 1 := by omega
      rw [i1, ea] at ha
      rw [i2] at hb
      have e := lookW_hit x x9 i _ hno ha hb
      refine cb_retS (x := x9) (news := news) (fun t h' tk' F N => ?_) rfl (by assumption) ?_
      · have q := hret t h' tk' F N
        unfold lookV at q
        rw [e] at q
        exact q
      · exact cb_drop (by assumption) (fun p hp => List.mem_append_right _ (List.mem_cons_of_mem _ hp))
    · rename (_ == x) = false => he
      have ha := hx9'
      have ea : x9 ≠ x := fun q => by rw [q] at he; simp at he
      have i1 : (0 + (i : Int) * 2).toNat = 2 * i := by omega
      rw [i1] at ha
      refine' InvEnd.intro F1 N1 (fun p hp => hp) ⟨_, vMap_turn x t1 D _ _, ?ino⟩
      intro j hj q
      rcases Nat.lt_or_ge j i with z | z
      · exact hno j z q
      · have : j = i := by omega
        subst this
        rw [ha] at q
        exact ea (Option.some.inj q)
  · rintro m₁ h tk ⟨v, rfl, hno⟩ F1 N1
    k_steps
    have e := lookW_miss x 147 (List.map (fun x : Str × Tok => x.fst) l) (by rw [List.length_map]; omega) hno
    have q := hret 0 _ tk (by assumption) (cb_drop (by assumption) (fun p hp => List.mem_cons_of_mem _ hp))
    unfold lookV at q
    rw [e] at q
    exact q
end

section
example : True := by
  k_with_none
  k_with "k_all" => (first | assumption | (intro p9 hp9; (repeat' (first | (with_reducible rename (∀ p : Addr × Obj, p ∈ (_ : List (Addr × Obj)) → @LT.lt Nat _ p.1 _) => hq9; first | replace hq9 := ltN (hq9 p9 hp9) | clear hq9) | (with_reducible rename AllLt _ _ => hq9; first | replace hq9 := ltN (ktn_ltOf hq9 p9 hp9) | clear hq9) | (with_reducible rename (_ ∧ AllLt _ _) => hq9; obtain ⟨hz9, hq9⟩ := hq9))); (refine neN ?_); omega))
  k_with "k_ne" => ((refine neN ?_; (try dsimp only); first | with_reducible assumption | exact Ne.symm (by with_reducible assumption) | exact ne_above (by with_reducible assumption) (by k_mem) | exact Ne.symm (ne_above (by with_reducible assumption) (by k_mem)) | exact ne_above1 (by with_reducible assumption) (by k_mem) | exact Ne.symm (ne_above1 (by with_reducible assumption) (by k_mem))))
  k_with "room" => (first | exact room_at (by with_reducible assumption) rfl rfl | exact room_at0 (by with_reducible assumption) rfl | exact room_at1 (by with_reducible assumption) rfl rfl)
  k_with "units" => (exact units_at (by with_reducible assumption) rfl rfl)
  k_with "x.p" => (refine' Prem.mk ?_ ?_ ?_ ?_ ?_ ?_ ?_ ?_; rotate_right 8; (focus k_asm); (focus k_asm); (focus k_asm); (focus (k_asm)); (focus k_asm); (focus (first | exact rfl | assumption)); (focus ktr_room); (focus ktr_units))
  k_with "x.pn" => (refine' Prem.mk ?_ ?_ ?_ ?_ ?_ ?_ ?_ ?_; rotate_right 8; (focus k_asm); (focus k_asm); (focus k_asm); (focus (first | k_asm | exact news_rot1 (by k_asm) | exact news_rot2 (by k_asm))); (focus k_asm); (focus (first | exact rfl | assumption)); (focus ktr_room); (focus ktr_units))
  k_with "x.pr" => (refine' Prem.mk ?_ ?_ ?_ ?_ ?_ ?_ ?_ ?_; rotate_right 8; (focus k_asm); (focus k_asm); (focus k_asm); (focus (first | k_asm | exact rot1 (by k_asm) | exact rot2 (by k_asm) | exact rot3 (by k_asm))); (focus k_asm); (focus (first | exact rfl | assumption)); (focus ktr_room); (focus ktr_units))
  k_with "x.t" => (intro t9 h9 tk9 F9 N9; (try dsimp only); (try k_fold))
  k_with "x.2" => (intro x9 t91 t92 h9 tk9 F9 N9 l9; (try k_lt l9); (try dsimp only); (try k_fold))
  k_with "x.3" => (intro x9 t91 t92 t93 h9 tk9 F9 N9 l9; (try k_lt l9); (try dsimp only); (try k_fold))
  k_with "x.4" => (intro x9 t91 t92 t93 t94 h9 tk9 F9 N9 l9; (try k_lt l9); (try dsimp only); (try k_fold))
  k_with "x.tt" => (intro t9 t91 h9 tk9 F9 N9; (try dsimp only); (try k_fold))
  k_with "x.take" => (intro d9 a9 b9 t9 t91 t92 n9 h9 tk9 hd0 hd1 ha9 hb9 hb99 F9 N9; (have hb9' := And.intro hb9 hb99); (try dsimp only); (try k_fold))
  k_with "x.r" => (intro e9 t9 ws9 h9 tk9 G9 FG9 R9 U9; (try dsimp only); (try k_fold))
  k_with "x.c" => (intro h9 tk9 g9 T9 F9 N9 B9 X9 P9 D9; (try dsimp only); (try k_fold))
  k_with "eval Name" => ((k_here; (first | ((with_reducible show wpAny _ _ (eval (Expr.Name _ _) (compEnvC _ _ _ _)) _ _ _); k_dflt (first | (name_kind "local"; refine' LCgL.ld_own ?_ ?_ ?_ ?_ ?_ ?_ ?_ ?_; rotate_right 8; rotate_left 6; (focus (first | kernel_rfl! | rfl)); rotate_right 6; rotate_left 5; (focus (rfl)); rotate_right 5; rotate_left 5; (focus (decide)); rotate_right 5; (focus (k_asm)); (focus (k_mem)); (focus (assumption)); (focus (assumption))) | (name_kind "globalImplicit"; first | (refine' LCgL.ld_global ?_ ?_ ?_ ?_ ?_ ?_ ?_ ?_ ?_; rotate_right 9; rotate_left 7; (focus (first | kernel_rfl! | rfl)); rotate_right 7; (focus (k_asm)); (focus (k_asm)); (focus (k_asm)); (focus (k_is)); rotate_left 1; (focus (rfl)); rotate_right 1; rotate_left 1; (focus (rfl)); rotate_right 1; rotate_left 1; (focus (decide)); rotate_right 1) | (refine' LCgL.ld_built ?_ ?_ ?_ ?_ ?_ ?_ ?_ ?_ ?_ ?_ ?_ ?_; rotate_right 12; rotate_left 10; (focus (first | kernel_rfl! | rfl)); rotate_right 10; (focus (k_asm)); (focus (k_asm)); (focus (k_asm)); (focus (k_is)); (focus (boot_by_name)); (focus (decide)); rotate_left 1; (focus (rfl)); rotate_right 1; rotate_left 1; (focus (rfl)); rotate_right 1; rotate_left 1; (focus (rfl)); rotate_right 1; rotate_left 1; (focus (decide)); rotate_right 1))) ) | ((fail_if_success (with_reducible show wpAny _ _ (eval (Expr.Name _ _) (compEnvC _ _ _ _)) _ _ _)); k_dflt (first | (name_kind "local"; refine' nameX_L ?_ ?_ ?_ ?_ ?_; rotate_right 5; rotate_left 4; (focus (first | kernel_rfl! | rfl)); rotate_right 4; rotate_left 3; (focus (rfl)); rotate_right 3; (focus (k_asm)); (focus (rfl)); k_whole) | (name_kind "globalImplicit"; first | (refine' nameX_K ?_ ?_ ?_ ?_ ?_ ?_ ?_; rotate_right 7; rotate_left 6; (focus (first | kernel_rfl! | rfl)); rotate_right 6; (focus (k_asm)); (focus (k_asm)); (focus (k_asm)); rotate_left 2; (focus (rfl)); rotate_right 2; (focus (k_is)); k_whole) | (refine' nameX_B ?_ ?_ ?_ ?_ ?_ ?_ ?_ ?_ ?_; rotate_right 9; rotate_left 8; (focus (first | kernel_rfl! | rfl)); rotate_right 8; (focus (k_asm)); (focus (k_asm)); (focus (k_asm)); rotate_left 4; (focus (rfl)); rotate_right 4; (focus (k_is)); (focus (boot_fast)); (focus (decide)); k_whole)) | (name_kind "cell"; refine' nameX_C ?_ ?_ ?_ ?_ ?_ ?_ ?_; rotate_right 7; rotate_left 6; (focus (first | kernel_rfl! | rfl)); rotate_right 6; rotate_left 5; (focus (rfl)); rotate_right 5; (focus (k_asm)); (focus (rfl)); (focus (k_mem)); (focus (k_asm)); k_whole))))))
  k_with "fold" => ((fail_if_success (fail_if_success k_fold)); (refine (let qk := _; let ek := _; (?_ : wpAny _ _ _ qk ek _))))
  k_with "isTrue BoolOp" => (k_here; k_extra "fold")
  k_with "isTrue Compare" => (k_here; k_extra "fold")
  k_with "isTrue UnaryOp" => (k_here; k_extra "fold")
  k_with "eval Call" => (k_here; k_extra "fold")
  k_with "eval Compare" => (k_here; k_extra "fold")
  k_with "eval BinOp" => (k_here; k_extra "fold")
  k_with "eval Tuple" => (k_here; k_extra "fold")
  k_with "eval List" => (k_here; k_extra "fold")
  trivial
theorem in_hex {c : Nat} (h : isHex c) : (!(Builtin.Str.occurrences (Str.ofString "0123456789abcdef") ⟨#[c]⟩ 0 (Str.ofString "0123456789abcdef").length 1).isEmpty) = true := by
  have q : ∀ k : Fin 103, isHexB (k : Nat) = true → (!(Builtin.Str.occurrences (Str.ofString "0123456789abcdef") ⟨#[(k : Nat)]⟩ 0 (Str.ofString "0123456789abcdef").length 1).isEmpty) = true := by decide +kernel
  have hk : c < 103 := by rcases h with h | h <;> omega
  exact q ⟨c, hk⟩ (by unfold isHexB; rcases h with h | h <;> simp <;> omega)
theorem byte_of' (x : Str) (a b : Nat) (t1 : Tok) (hx : x = ⟨#[a, b]⟩) (ha : isHex a) (hb : isHex b) (news : List (Addr × Obj)) :
    CallOf w mean mg mb 202 [.str x t1] 1 news (fun h₀ L m s Q => CbRet h₀ L m news s Q fun t => .int (16 * hexV a + hexV b) t) := by
  subst hx
  exact byte_is a b t1 ha hb news
example : True := by
  k_with "eval ListComp" => ((k_here; k_dflt (refine ListComp_M (by k_asm) (by with_unfolding_all rfl) (by decide) (by rfl) (by decide) (by rfl) ?_)))
  trivial
example : True := by
  k_with "MySrc" => ((refine stopHere ?_))
  trivial
example : True := by
  k_with "call ref" => ((k_here; k_dflt (refine' callBy (byte_of' _ _ _ _ ?_ ?_ ?_ _) ?_ ?_; rotate_right 2; (focus (walk_at "x.p")); (all_goals skip); rotate_right 3; (focus (k_asm)); (focus (k_asm)); (focus (k_asm)); walk_at "x.t")))
  trivial
set_option maxHeartbeats 4000000 in
theorem sdig6_is (a b c d e f : Nat) (t1 : Tok) (ha : isHex a) (hb : isHex b) (hc : isHex c) (hd : isHex d) (he : isHex e) (hf : isHex f) (news : List (Addr × Obj)) :
    CallOf w mean mg mb 207 [.str ⟨#[a, b, c, d, e, f]⟩ t1] 2 news (fun h₀ L m s Q => Ret3 h₀ L m news s Q (16 * hexV a + hexV b) (16 * hexV c + hexV d) (16 * hexV e + hexV f)) := by
  have hall : ∀ x ∈ (⟨#[a, b, c, d, e, f]⟩ : Str).cps.toList, isHex x := by
    intro x hx
    simp only [List.mem_cons, List.not_mem_nil, or_false] at hx
    rcases hx with rfl | rfl | rfl | rfl | rfl | rfl <;> assumption
  have hlen : (⟨#[a, b, c, d, e, f]⟩ : Str).length = 6 := rfl
  have s0 : Txt.slice (⟨#[a, b, c, d, e, f]⟩ : Str) (some 0) (some 2) = ⟨#[a, b]⟩ := rfl
  have s1 : Txt.slice (⟨#[a, b, c, d, e, f]⟩ : Str) (some 2) (some 4) = ⟨#[c, d]⟩ := rfl
  have s2 : Txt.slice (⟨#[a, b, c, d, e, f]⟩ : Str) (some 4) (some 6) = ⟨#[e, f]⟩ := rfl
  have h36 : ([3, 6].any fun x => x == ((⟨#[a, b, c, d, e, f]⟩ : Str).length : Int)) = true := rfl
  dsimp only [CallOf]
  intro dp un gd cn cs a9 ccd cl outer A₀ base h₀ L m s Q E B F X N T hk hd9 hu9 hret
  suffices hz : (laid.heap_1 = laid.heap_1 → PySem.Challenge.rw_nu0021_01 = PySem.Challenge.rw_nu0021_01 → _) from hz rfl rfl
  k_fill
  intro _ _
  refine wpAny_call ?_
  k_dflt (refine' code_def ?k1 ?k2 ?k3 ?k4 ?k5 ?kA ?kF ?kK ?k6 ?k7 ?k8 ?k9 ?kB ?_ ?c2 ?c3 ?c4 ?c5; (case kA => exact rfl); (case kF => exact rfl); (case kK => assumption); (case k1 => k_asm); (case k2 => k_asm); (case k3 => k_asm); (case k4 => k_asm); (case k5 => k_asm); (case k6 => k_is); (case k7 => k_is); (case k8 => ktr_room); (case k9 => first | exact BindsTo.of_eq rfl | exact binds_K (by k_in) rfl (by k_is) rfl rfl rfl); (case c5 => decide); (case kB => exact locs rfl); (case c2 => exact rfl); (case c3 => exact rfl); (case c4 => exact rfl); k_whole; intro g' L' h' FG' F' N' B' X' T'; (try dsimp only); (try k_lift B'); (try k_fold))
  k_steps
  · refine Wrap.mk ?_
    refine MySrc.text rfl (by assumption) (by assumption) (by rw [sizeLine_eq]; show (6 : Nat) ≤ _; decide) ?_
    intro g9
    refine rest_rel (fun _ y => y = .bool true) ?_ ?_ _ 0 [] (Nat.zero_add _) .nil
    · intro c u ys I oI C oC D m₂ h tk E' hc hC hx' F1 N1 off ap
      have hin := in_hex (hall c hc)
      k_steps
      refine TurnEnd.intro ?_ (by assumption) (by assumption)
      rw [hin]
    · intro ys hys
      have hys' : ys = [.bool true, .bool true, .bool true, .bool true, .bool true, .bool true] := by
        cases hys with | cons e1 h1 => cases h1 with | cons e2 h2 => cases h2 with | cons e3 h3 => cases h3 with | cons e4 h4 => cases h4 with | cons e5 h5 => cases h5 with | cons e6 h6 => cases h6; rw [e1, e2, e3, e4, e5, e6]
      subst hys'
      k_steps
      · exfalso
        omega
      · refine' hret _ _ _ _ _ _ ?zf1 ?zn1 ?zo1
        case zf1 => assumption
        case zn1 => exact cb_drop (by assumption) (List.forall_mem_cons.mpr ⟨List.Mem.head _, fun p hp => by repeat (first | exact hp | refine List.mem_cons_of_mem _ ?_)⟩)
        case zo1 => (first | exact lts_of (by assumption) (fun p hp => by repeat (first | exact hp | refine List.mem_cons_of_mem _ ?_)) | (intro p9 hp9; (repeat' (first | (with_reducible rename (∀ p : Addr × Obj, p ∈ (_ : List (Addr × Obj)) → @LT.lt Nat _ p.1 _) => hq9; first | replace hq9 := ltN (hq9 p9 hp9) | clear hq9) | (with_reducible rename AllLt _ _ => hq9; first | replace hq9 := ltN (ktn_ltOf hq9 p9 hp9) | clear hq9) | (with_reducible rename (_ ∧ AllLt _ _) => hq9; obtain ⟨hz9, hq9⟩ := hq9) | (with_reducible rename (_ ∧ _ ∧ AllLt _ _) => hq9; obtain ⟨hz9, hq9⟩ := hq9) | (with_reducible rename (_ ∧ _ ∧ _ ∧ AllLt _ _) => hq9; obtain ⟨hz9, hq9⟩ := hq9) | (with_reducible rename (_ ∧ _ ∧ _ ∧ _ ∧ AllLt _ _) => hq9; obtain ⟨hz9, hq9⟩ := hq9) | (with_reducible rename (_ ∧ _ ∧ _ ∧ _ ∧ _ ∧ AllLt _ _) => hq9; obtain ⟨hz9, hq9⟩ := hq9) | (with_reducible rename (_ ∧ _ ∧ _ ∧ _ ∧ _ ∧ _ ∧ AllLt _ _) => hq9; obtain ⟨hz9, hq9⟩ := hq9) | (with_reducible rename (_ ∧ _ ∧ _ ∧ _ ∧ _ ∧ _ ∧ _ ∧ AllLt _ _) => hq9; obtain ⟨hz9, hq9⟩ := hq9) | (with_reducible rename (_ ∧ _ ∧ _ ∧ _ ∧ _ ∧ _ ∧ _ ∧ _ ∧ AllLt _ _) => hq9; obtain ⟨hz9, hq9⟩ := hq9))); first | assumption | (refine ltN ?_; omega)))
example : True := by
  k_with "call builtin:str.join" => ((refine stopHere ?_))
  trivial
set_option maxHeartbeats 4000000 in
theorem sdig3_is (a b c : Nat) (t1 : Tok) (ha : isHex a) (hb : isHex b) (hc : isHex c) (news : List (Addr × Obj)) :
    CallOf w mean mg mb 207 [.str ⟨#[a, b, c]⟩ t1] 2 news (fun h₀ L m s Q => Ret3 h₀ L m news s Q (16 * hexV a + hexV a) (16 * hexV b + hexV b) (16 * hexV c + hexV c)) := by
  have hall : ∀ x ∈ (⟨#[a, b, c]⟩ : Str).cps.toList, isHex x := by
    intro x hx
    simp only [List.mem_cons, List.not_mem_nil, or_false] at hx
    rcases hx with rfl | rfl | rfl <;> assumption
  have hlen : (⟨#[a, b, c]⟩ : Str).length = 3 := rfl
  have h36 : ([3, 6].any fun x => x == ((⟨#[a, b, c]⟩ : Str).length : Int)) = true := rfl
  dsimp only [CallOf]
  intro dp un gd cn cs a9 ccd cl outer A₀ base h₀ L m s Q E B F X N T hk hd9 hu9 hret
  suffices hz : (laid.heap_1 = laid.heap_1 → PySem.Challenge.rw_nu0021_01 = PySem.Challenge.rw_nu0021_01 → _) from hz rfl rfl
  k_fill
  intro _ _
  refine wpAny_call ?_
  k_dflt (refine' code_def ?k1 ?k2 ?k3 ?k4 ?k5 ?kA ?kF ?kK ?k6 ?k7 ?k8 ?k9 ?kB ?_ ?c2 ?c3 ?c4 ?c5; (case kA => exact rfl); (case kF => exact rfl); (case kK => assumption); (case k1 => k_asm); (case k2 => k_asm); (case k3 => k_asm); (case k4 => k_asm); (case k5 => k_asm); (case k6 => k_is); (case k7 => k_is); (case k8 => ktr_room); (case k9 => first | exact BindsTo.of_eq rfl | exact binds_K (by k_in) rfl (by k_is) rfl rfl rfl); (case c5 => decide); (case kB => exact locs rfl); (case c2 => exact rfl); (case c3 => exact rfl); (case c4 => exact rfl); k_whole; intro g' L' h' FG' F' N' B' X' T'; (try dsimp only); (try k_lift B'); (try k_fold))
  k_steps
  refine Wrap.mk ?_
  refine MySrc.text rfl (by assumption) (by assumption) (by rw [sizeLine_eq]; show (3 : Nat) ≤ _; decide) ?_
  intro g9
  refine rest_rel (fun _ y => y = .bool true) ?_ ?_ _ 0 [] (Nat.zero_add _) .nil
  · intro c u ys I oI C oC D m₂ h tk E' hc hC hx' F1 N1 off ap
    have hin := in_hex (hall c hc)
    k_steps
    refine TurnEnd.intro ?_ (by assumption) (by assumption)
    rw [hin]
  · intro ys hys
    have hys' : ys = [.bool true, .bool true, .bool true] := by
      cases hys with | cons e1 h1 => cases h1 with | cons e2 h2 => cases h2 with | cons e3 h3 => cases h3; rw [e1, e2, e3]
    subst hys'
    k_steps
    · refine Wrap.mk ?_
      refine MySrc.text rfl (by assumption) (by assumption) (by rw [sizeLine_eq]; show (3 : Nat) ≤ _; decide) ?_
      intro g9
      refine rest_rel (fun c y => ∃ t, y = .str ⟨#[c, c]⟩ t) ?_ ?_ _ 0 [] (Nat.zero_add _) .nil
      · intro c u ys I oI C oC D m₂ h tk E' hc hC hx' F1 N1 off ap
        k_steps
        exact TurnEnd.intro ⟨_, rfl⟩ (by assumption) (by assumption)
      · intro ys hys
        obtain ⟨ta, tb, tc, rfl⟩ : ∃ ta tb tc, ys = [.str ⟨#[a, a]⟩ ta, .str ⟨#[b, b]⟩ tb, .str ⟨#[c, c]⟩ tc] := by
          cases hys with | cons e1 h1 => cases h1 with | cons e2 h2 => cases h2 with | cons e3 h3 => cases h3; obtain ⟨ta, e1⟩ := e1; obtain ⟨tb, e2⟩ := e2; obtain ⟨tc, e3⟩ := e3; exact ⟨ta, tb, tc, by rw [e1, e2, e3]⟩
        k_steps
        refine Wrap.mk ?_
        refine join_listW (ys := [⟨#[a, a]⟩, ⟨#[b, b]⟩, ⟨#[c, c]⟩]) (News.isList (by assumption) (List.Mem.head _)) (.cons _ _ (.cons _ _ (.cons _ _ .nil))) (by decide +kernel) (by show ((2 + (2 + (2 + 0)) + 3 : Nat)) ≤ _; decide) ?_
        obtain ⟨J, hJ⟩ : ∃ J, J = Txt.join (Str.ofString "") [⟨#[a, a]⟩, ⟨#[b, b]⟩, ⟨#[c, c]⟩] := ⟨_, rfl⟩
        have e0 : Str.ofString "" = ⟨#[]⟩ := by decide +kernel
        rw [← hJ]
        rw [e0] at hJ
        have s0 : Txt.slice J (some 0) (some 2) = ⟨#[a, a]⟩ := by rw [hJ]; rfl
        have s1 : Txt.slice J (some 2) (some 4) = ⟨#[b, b]⟩ := by rw [hJ]; rfl
        have s2 : Txt.slice J (some 4) (some 6) = ⟨#[c, c]⟩ := by rw [hJ]; rfl
        have sj : J.length = 6 := by rw [hJ]; rfl
        clear hJ e0
        intro t' k'
        k_steps
        refine' hret _ _ _ _ _ _ ?zf1 ?zn1 ?zo1
        case zf1 => assumption
        case zn1 => exact cb_drop (by assumption) (List.forall_mem_cons.mpr ⟨List.Mem.head _, fun p hp => by repeat (first | exact hp | refine List.mem_cons_of_mem _ ?_)⟩)
        case zo1 => (first | exact lts_of (by assumption) (fun p hp => by repeat (first | exact hp | refine List.mem_cons_of_mem _ ?_)) | (intro p9 hp9; (repeat' (first | (with_reducible rename (∀ p : Addr × Obj, p ∈ (_ : List (Addr × Obj)) → @LT.lt Nat _ p.1 _) => hq9; first | replace hq9 := ltN (hq9 p9 hp9) | clear hq9) | (with_reducible rename AllLt _ _ => hq9; first | replace hq9 := ltN (ktn_ltOf hq9 p9 hp9) | clear hq9) | (with_reducible rename (_ ∧ AllLt _ _) => hq9; obtain ⟨hz9, hq9⟩ := hq9) | (with_reducible rename (_ ∧ _ ∧ AllLt _ _) => hq9; obtain ⟨hz9, hq9⟩ := hq9) | (with_reducible rename (_ ∧ _ ∧ _ ∧ AllLt _ _) => hq9; obtain ⟨hz9, hq9⟩ := hq9) | (with_reducible rename (_ ∧ _ ∧ _ ∧ _ ∧ AllLt _ _) => hq9; obtain ⟨hz9, hq9⟩ := hq9) | (with_reducible rename (_ ∧ _ ∧ _ ∧ _ ∧ _ ∧ AllLt _ _) => hq9; obtain ⟨hz9, hq9⟩ := hq9) | (with_reducible rename (_ ∧ _ ∧ _ ∧ _ ∧ _ ∧ _ ∧ AllLt _ _) => hq9; obtain ⟨hz9, hq9⟩ := hq9) | (with_reducible rename (_ ∧ _ ∧ _ ∧ _ ∧ _ ∧ _ ∧ _ ∧ AllLt _ _) => hq9; obtain ⟨hz9, hq9⟩ := hq9) | (with_reducible rename (_ ∧ _ ∧ _ ∧ _ ∧ _ ∧ _ ∧ _ ∧ _ ∧ AllLt _ _) => hq9; obtain ⟨hz9, hq9⟩ := hq9))); first | assumption | (refine ltN ?_; omega)))
    · exfalso
      omega
end

section
example : True := by
  k_with_none
  k_with "k_all" => (first | assumption | (intro p9 hp9; (repeat' (first | (with_reducible rename (∀ p : Addr × Obj, p ∈ (_ : List (Addr × Obj)) → @LT.lt Nat _ p.1 _) => hq9; first | replace hq9 := ltN (hq9 p9 hp9) | clear hq9) | (with_reducible rename AllLt _ _ => hq9; first | replace hq9 := ltN (ktn_ltOf hq9 p9 hp9) | clear hq9) | (with_reducible rename (_ ∧ AllLt _ _) => hq9; obtain ⟨hz9, hq9⟩ := hq9))); (refine neN ?_); omega))
  k_with "k_ne" => ((refine neN ?_; (try dsimp only); first | with_reducible assumption | exact Ne.symm (by with_reducible assumption) | exact ne_above (by with_reducible assumption) (by k_mem) | exact Ne.symm (ne_above (by with_reducible assumption) (by k_mem)) | exact ne_above1 (by with_reducible assumption) (by k_mem) | exact Ne.symm (ne_above1 (by with_reducible assumption) (by k_mem))))
  k_with "room" => (first | exact room_at (by with_reducible assumption) rfl rfl | exact room_at0 (by with_reducible assumption) rfl | exact room_at1 (by with_reducible assumption) rfl rfl)
  k_with "units" => (exact units_at (by with_reducible assumption) rfl rfl)
  k_with "x.p" => (refine' Prem.mk ?_ ?_ ?_ ?_ ?_ ?_ ?_ ?_; rotate_right 8; (focus k_asm); (focus k_asm); (focus k_asm); (focus (k_asm)); (focus k_asm); (focus (first | exact rfl | assumption)); (focus ktr_room); (focus ktr_units))
  k_with "x.pn" => (refine' Prem.mk ?_ ?_ ?_ ?_ ?_ ?_ ?_ ?_; rotate_right 8; (focus k_asm); (focus k_asm); (focus k_asm); (focus (first | k_asm | exact news_rot1 (by k_asm) | exact news_rot2 (by k_asm))); (focus k_asm); (focus (first | exact rfl | assumption)); (focus ktr_room); (focus ktr_units))
  k_with "x.pr" => (refine' Prem.mk ?_ ?_ ?_ ?_ ?_ ?_ ?_ ?_; rotate_right 8; (focus k_asm); (focus k_asm); (focus k_asm); (focus (first | k_asm | exact rot1 (by k_asm) | exact rot2 (by k_asm) | exact rot3 (by k_asm))); (focus k_asm); (focus (first | exact rfl | assumption)); (focus ktr_room); (focus ktr_units))
  k_with "x.t" => (intro t9 h9 tk9 F9 N9; (try dsimp only); (try k_fold))
  k_with "x.2" => (intro x9 t91 t92 h9 tk9 F9 N9 l9; (try k_lt l9); (try dsimp only); (try k_fold))
  k_with "x.3" => (intro x9 t91 t92 t93 h9 tk9 F9 N9 l9; (try k_lt l9); (try dsimp only); (try k_fold))
  k_with "x.4" => (intro x9 t91 t92 t93 t94 h9 tk9 F9 N9 l9; (try k_lt l9); (try dsimp only); (try k_fold))
  k_with "x.tt" => (intro t9 t91 h9 tk9 F9 N9; (try dsimp only); (try k_fold))
  k_with "x.take" => (intro d9 a9 b9 t9 t91 t92 n9 h9 tk9 hd0 hd1 ha9 hb9 hb99 F9 N9; (have hb9' := And.intro hb9 hb99); (try dsimp only); (try k_fold))
  k_with "x.r" => (intro e9 t9 ws9 h9 tk9 G9 FG9 R9 U9; (try dsimp only); (try k_fold))
  k_with "x.c" => (intro h9 tk9 g9 T9 F9 N9 B9 X9 P9 D9; (try dsimp only); (try k_fold))
  k_with "eval Name" => ((k_here; (first | ((with_reducible show wpAny _ _ (eval (Expr.Name _ _) (compEnvC _ _ _ _)) _ _ _); k_dflt (first | (name_kind "local"; refine' LCgL.ld_own ?_ ?_ ?_ ?_ ?_ ?_ ?_ ?_; rotate_right 8; rotate_left 6; (focus (first | kernel_rfl! | rfl)); rotate_right 6; rotate_left 5; (focus (rfl)); rotate_right 5; rotate_left 5; (focus (decide)); rotate_right 5; (focus (k_asm)); (focus (k_mem)); (focus (assumption)); (focus (assumption))) | (name_kind "globalImplicit"; first | (refine' LCgL.ld_global ?_ ?_ ?_ ?_ ?_ ?_ ?_ ?_ ?_; rotate_right 9; rotate_left 7; (focus (first | kernel_rfl! | rfl)); rotate_right 7; (focus (k_asm)); (focus (k_asm)); (focus (k_asm)); (focus (k_is)); rotate_left 1; (focus (rfl)); rotate_right 1; rotate_left 1; (focus (rfl)); rotate_right 1; rotate_left 1; (focus (decide)); rotate_right 1) | (refine' LCgL.ld_built ?_ ?_ ?_ ?_ ?_ ?_ ?_ ?_ ?_ ?_ ?_ ?_; rotate_right 12; rotate_left 10; (focus (first | kernel_rfl! | rfl)); rotate_right 10; (focus (k_asm)); (focus (k_asm)); (focus (k_asm)); (focus (k_is)); (focus (boot_by_name)); (focus (decide)); rotate_left 1; (focus (rfl)); rotate_right 1; rotate_left 1; (focus (rfl)); rotate_right 1; rotate_left 1; (focus (rfl)); rotate_right 1; rotate_left 1; (focus (decide)); rotate_right 1))) ) | ((fail_if_success (with_reducible show wpAny _ _ (eval (Expr.Name _ _) (compEnvC _ _ _ _)) _ _ _)); k_dflt (first | (name_kind "local"; refine' nameX_L ?_ ?_ ?_ ?_ ?_; rotate_right 5; rotate_left 4; (focus (first | kernel_rfl! | rfl)); rotate_right 4; rotate_left 3; (focus (rfl)); rotate_right 3; (focus (k_asm)); (focus (rfl)); k_whole) | (name_kind "globalImplicit"; first | (refine' nameX_K ?_ ?_ ?_ ?_ ?_ ?_ ?_; rotate_right 7; rotate_left 6; (focus (first | kernel_rfl! | rfl)); rotate_right 6; (focus (k_asm)); (focus (k_asm)); (focus (k_asm)); rotate_left 2; (focus (rfl)); rotate_right 2; (focus (k_is)); k_whole) | (refine' nameX_B ?_ ?_ ?_ ?_ ?_ ?_ ?_ ?_ ?_; rotate_right 9; rotate_left 8; (focus (first | kernel_rfl! | rfl)); rotate_right 8; (focus (k_asm)); (focus (k_asm)); (focus (k_asm)); rotate_left 4; (focus (rfl)); rotate_right 4; (focus (k_is)); (focus (boot_fast)); (focus (decide)); k_whole)) | (name_kind "cell"; refine' nameX_C ?_ ?_ ?_ ?_ ?_ ?_ ?_; rotate_right 7; rotate_left 6; (focus (first | kernel_rfl! | rfl)); rotate_right 6; rotate_left 5; (focus (rfl)); rotate_right 5; (focus (k_asm)); (focus (rfl)); (focus (k_mem)); (focus (k_asm)); k_whole))))))
  k_with "fold" => ((fail_if_success (fail_if_success k_fold)); (refine (let qk := _; let ek := _; (?_ : wpAny _ _ _ qk ek _))))
  k_with "isTrue BoolOp" => (k_here; k_extra "fold")
  k_with "isTrue Compare" => (k_here; k_extra "fold")
  k_with "isTrue UnaryOp" => (k_here; k_extra "fold")
  k_with "eval Call" => (k_here; k_extra "fold")
  k_with "eval Compare" => (k_here; k_extra "fold")
  k_with "eval BinOp" => (k_here; k_extra "fold")
  k_with "eval Tuple" => (k_here; k_extra "fold")
  k_with "eval List" => (k_here; k_extra "fold")
  trivial
/-- what read_decimal tells of a text -/
def ReadsAs (w : World) (mean : ExcName → Option Value) (mg mb : Str → Option Value) (x : Str) (a b : Int) : Prop :=
  ∀ (t1 : Tok) (news : List (Addr × Obj)), CallOf w mean mg mb 171 [.str x t1] 5 news (fun h₀ L m s Q => Ret2 h₀ L m news s Q a b)
theorem reads_at {x : Str} {a b : Int} (h : ReadsAs w mean mg mb x a b) (t1 : Tok) (news : List (Addr × Obj)) : CallOf w mean mg mb 171 [.str x t1] 5 news (fun h₀ L m s Q => Ret2 h₀ L m news s Q a b) := h t1 news
example : True := by
  k_with "call ref" => ((k_here; k_dflt (refine' callBy (reads_at ?_ _ _) ?_ ?_; rotate_right 2; (focus (walk_at "x.p")); (all_goals skip); rotate_right 1; (focus (k_asm)); walk_at "x.2")))
  trivial
example : True := by
  k_with "call ref" => ((k_here; k_dflt (refine' callBy (frac1_is _ _ ?_ _) ?_ ?_; rotate_right 2; (focus (walk_at "x.p")); (all_goals skip); rotate_right 1; (focus (omega)); walk_at "x.2")))
  trivial
example : True := by
  k_with "call ref" => ((k_here; k_dflt (refine' callBy (times_is _ _ _ _ _ _ _ _ _ _ _ ?_ ?_ ?_ ?_ ?_) ?_ ?_; rotate_right 2; (focus (walk_at "x.p")); (all_goals skip); rotate_right 5; (focus (k_mem)); (focus (k_mem)); (focus (omega)); (focus (rfl)); (focus (rfl)); walk_at "x.2")))
  trivial
example : True := by
  k_with "call ref" => ((k_here; k_dflt (refine' callBy (divided_is _ _ _ _ _ _ _ _ _ _ _ ?_ ?_ ?_ ?_ ?_) ?_ ?_; rotate_right 2; (focus (walk_at "x.p")); (all_goals skip); rotate_right 5; (focus (k_mem)); (focus (k_mem)); (focus (omega)); (focus (k_asm)); (focus (rfl)); walk_at "x.2")))
  trivial
example : True := by
  k_with "call ref" => ((k_here; k_dflt (refine' callBy (rounded_is _ _ _ _ _ _ ?_ ?_) ?_ ?_; rotate_right 2; (focus (walk_at "x.p")); (all_goals skip); rotate_right 2; (focus (k_mem)); (focus (first | assumption | omega)); walk_at "x.t")))
  trivial
set_option maxHeartbeats 4000000 in
theorem part_num (x : Str) (t1 : Tok) (a b : Int) (hr : ReadsAs w mean mg mb x a b) (hb : 0 < b ∧ b < 1000000) (hx : x.length ≤ 100) (hp : (Txt.slice x (some (-1)) none == Str.ofString "%") = false) (news : List (Addr × Obj)) :
    CallOf w mean mg mb 214 [.str x t1] 8 news (fun h₀ L m s Q => CbRet h₀ L m news s Q fun t => .int (min (max ((2 * a + b) / (2 * b)) 0) 255) t) := by
  dsimp only [CallOf]
  intro dp un gd cn cs a9 ccd cl outer A₀ base h₀ L m s Q E B F X N T hk hd9 hu9 hret
  suffices hz : (laid.heap_1 = laid.heap_1 → PySem.Challenge.rw_nu0021_01 = PySem.Challenge.rw_nu0021_01 → _) from hz rfl rfl
  k_fill
  intro _ _
  refine wpAny_call ?_
  k_dflt (refine' code_def ?k1 ?k2 ?k3 ?k4 ?k5 ?kA ?kF ?kK ?k6 ?k7 ?k8 ?k9 ?kB ?_ ?c2 ?c3 ?c4 ?c5; (case kA => exact rfl); (case kF => exact rfl); (case kK => assumption); (case k1 => k_asm); (case k2 => k_asm); (case k3 => k_asm); (case k4 => k_asm); (case k5 => k_asm); (case k6 => k_is); (case k7 => k_is); (case k8 => ktr_room); (case k9 => first | exact BindsTo.of_eq rfl | exact binds_K (by k_in) rfl (by k_is) rfl rfl rfl); (case c5 => decide); (case kB => exact locs rfl); (case c2 => exact rfl); (case c3 => exact rfl); (case c4 => exact rfl); k_whole; intro g' L' h' FG' F' N' B' X' T'; (try dsimp only); (try k_lift B'); (try k_fold))
  k_steps
  refine cb_retI hret ?_ (by assumption) ?_
  · generalize (2 * a + b) / (2 * b) = z
    split <;> split at * <;> omega
  · exact cb_drop (by assumption) (fun p hp => by repeat (first | exact hp | refine List.mem_cons_of_mem _ ?_))
theorem frac_one (a : Int) : fracT (a * 255) (1 * 1) = a * 255 ∧ fracB (a * 255) (1 * 1) = 1 := by
  unfold fracT fracB
  have : Int.gcd (a * 255) (1 * 1) = 1 := by simp
  rw [this]
  constructor <;> simp
/-- a fraction made small is rounded as it stood -/
theorem round_frac (a b : Int) (hb : 0 < b) : (2 * fracT a b + fracB a b) / (2 * fracB a b) = (2 * a + b) / (2 * b) := by
  have hg : 0 < (Int.gcd a b : Int) := by
    have := Int.gcd_pos_of_ne_zero_right a (show b ≠ 0 by omega)
    omega
  have h1 : a = Int.gcd a b * fracT a b := by
    unfold fracT
    rw [Int.mul_ediv_cancel' (Int.gcd_dvd_left ..)]
  have h2 : b = Int.gcd a b * fracB a b := by
    unfold fracB
    rw [Int.mul_ediv_cancel' (Int.gcd_dvd_right ..)]
  generalize fracT a b = T at h1
  generalize fracB a b = B at h2
  generalize (Int.gcd a b : Int) = g at h1 h2 hg
  have e1 : 2 * a + b = g * (2 * T + B) := by rw [h1, h2, Int.mul_add, Int.mul_left_comm]
  have e2 : 2 * b = g * (2 * B) := by rw [h2, Int.mul_left_comm]
  rw [e1, e2, Int.mul_ediv_mul_of_pos _ _ hg]
theorem fracB_pos (a b : Int) (hb : 0 < b ∧ b < 1000000) : 0 < fracB a b ∧ fracB a b < 1000000 := by
  have hg : 0 < (Int.gcd a b : Int) := by
    have := Int.gcd_pos_of_ne_zero_right a (show b ≠ 0 by omega)
    omega
  have h2 : b = Int.gcd a b * fracB a b := by
    unfold fracB
    rw [Int.mul_ediv_cancel' (Int.gcd_dvd_right ..)]
  have h3 : 0 < fracB a b := by
    rcases Int.lt_or_le 0 (fracB a b) with h | h
    · exact h
    · have := Int.mul_nonpos_of_nonneg_of_nonpos (show (0:Int) ≤ Int.gcd a b by omega) h
      omega
  refine ⟨h3, ?_⟩
  have : 1 * fracB a b ≤ (Int.gcd a b : Int) * fracB a b := Int.mul_le_mul_of_nonneg_right (by omega) (by omega)
  omega
set_option maxHeartbeats 4000000 in
theorem part_pct (x : Str) (t1 : Tok) (a : Int) (hr : ReadsAs w mean mg mb (Txt.slice x none (some (-1))) a 1) (ha : 0 ≤ a ∧ a ≤ 1000) (hx : x.length ≤ 100) (hp : (Txt.slice x (some (-1)) none == Str.ofString "%") = true) (news : List (Addr × Obj)) :
    CallOf w mean mg mb 214 [.str x t1] 8 news (fun h₀ L m s Q => CbRet h₀ L m news s Q fun t => .int (min (max ((2 * (a * 255) + 100) / (2 * 100)) 0) 255) t) := by
  have e2 := (frac_one a).2
  have hz : fracT (a * 255) (1 * 1) * 1 = a * 255 := by rw [(frac_one a).1, Int.mul_one]
  have hy : fracB (a * 255) (1 * 1) * 100 = 100 := by rw [e2]; rfl
  have hq : (2 * fracT (fracT (a * 255) (1 * 1) * 1) (fracB (a * 255) (1 * 1) * 100) + fracB (fracT (a * 255) (1 * 1) * 1) (fracB (a * 255) (1 * 1) * 100)) / (2 * fracB (fracT (a * 255) (1 * 1) * 1) (fracB (a * 255) (1 * 1) * 100)) = (2 * (a * 255) + 100) / (2 * 100) := by
    rw [hz, hy]; exact round_frac (a * 255) 100 (by decide)
  have hB : 0 < fracB (fracT (a * 255) (1 * 1) * 1) (fracB (a * 255) (1 * 1) * 100) ∧ fracB (fracT (a * 255) (1 * 1) * 1) (fracB (a * 255) (1 * 1) * 100) < 1000000 := by
    rw [hz, hy]; exact fracB_pos (a * 255) 100 (by decide)
  clear hz hy
  rw [← hq]
  dsimp only [CallOf]
  intro dp un gd cn cs a9 ccd cl outer A₀ base h₀ L m s Q E B F X N T hk hd9 hu9 hret
  suffices hz : (laid.heap_1 = laid.heap_1 → PySem.Challenge.rw_nu0021_01 = PySem.Challenge.rw_nu0021_01 → _) from hz rfl rfl
  k_fill
  intro _ _
  refine wpAny_call ?_
  k_dflt (refine' code_def ?k1 ?k2 ?k3 ?k4 ?k5 ?kA ?kF ?kK ?k6 ?k7 ?k8 ?k9 ?kB ?_ ?c2 ?c3 ?c4 ?c5; (case kA => exact rfl); (case kF => exact rfl); (case kK => assumption); (case k1 => k_asm); (case k2 => k_asm); (case k3 => k_asm); (case k4 => k_asm); (case k5 => k_asm); (case k6 => k_is); (case k7 => k_is); (case k8 => ktr_room); (case k9 => first | exact BindsTo.of_eq rfl | exact binds_K (by k_in) rfl (by k_is) rfl rfl rfl); (case c5 => decide); (case kB => exact locs rfl); (case c2 => exact rfl); (case c3 => exact rfl); (case c4 => exact rfl); k_whole; intro g' L' h' FG' F' N' B' X' T'; (try dsimp only); (try k_lift B'); (try k_fold))
  k_steps
  refine cb_retI hret ?_ (by assumption) ?_
  · generalize ((2 * fracT (fracT (a * 255) (1 * 1) * 1) (fracB (a * 255) (1 * 1) * 100) + fracB (fracT (a * 255) (1 * 1) * 1) (fracB (a * 255) (1 * 1) * 100)) / (2 * fracB (fracT (a * 255) (1 * 1) * 1) (fracB (a * 255) (1 * 1) * 100))) = z
    split <;> split at * <;> omega
  · exact cb_drop (by assumption) (fun p hp => by repeat (first | exact hp | refine List.mem_cons_of_mem _ ?_))
end

section
example : True := by
  k_with_none
  k_with "k_all" => (first | assumption | (intro p9 hp9; (repeat' (first | (with_reducible rename (∀ p : Addr × Obj, p ∈ (_ : List (Addr × Obj)) → @LT.lt Nat _ p.1 _) => hq9; first | replace hq9 := ltN (hq9 p9 hp9) | clear hq9) | (with_reducible rename AllLt _ _ => hq9; first | replace hq9 := ltN (ktn_ltOf hq9 p9 hp9) | clear hq9) | (with_reducible rename (_ ∧ AllLt _ _) => hq9; obtain ⟨hz9, hq9⟩ := hq9))); (refine neN ?_); omega))
  k_with "k_ne" => ((refine neN ?_; (try dsimp only); first | with_reducible assumption | exact Ne.symm (by with_reducible assumption) | exact ne_above (by with_reducible assumption) (by k_mem) | exact Ne.symm (ne_above (by with_reducible assumption) (by k_mem)) | exact ne_above1 (by with_reducible assumption) (by k_mem) | exact Ne.symm (ne_above1 (by with_reducible assumption) (by k_mem))))
  k_with "room" => (first | exact room_at (by with_reducible assumption) rfl rfl | exact room_at0 (by with_reducible assumption) rfl | exact room_at1 (by with_reducible assumption) rfl rfl)
  k_with "units" => (exact units_at (by with_reducible assumption) rfl rfl)
  k_with "x.p" => (refine' Prem.mk ?_ ?_ ?_ ?_ ?_ ?_ ?_ ?_; rotate_right 8; (focus k_asm); (focus k_asm); (focus k_asm); (focus (k_asm)); (focus k_asm); (focus (first | exact rfl | assumption)); (focus ktr_room); (focus ktr_units))
  k_with "x.pn" => (refine' Prem.mk ?_ ?_ ?_ ?_ ?_ ?_ ?_ ?_; rotate_right 8; (focus k_asm); (focus k_asm); (focus k_asm); (focus (first | k_asm | exact news_rot1 (by k_asm) | exact news_rot2 (by k_asm))); (focus k_asm); (focus (first | exact rfl | assumption)); (focus ktr_room); (focus ktr_units))
  k_with "x.pr" => (refine' Prem.mk ?_ ?_ ?_ ?_ ?_ ?_ ?_ ?_; rotate_right 8; (focus k_asm); (focus k_asm); (focus k_asm); (focus (first | k_asm | exact rot1 (by k_asm) | exact rot2 (by k_asm) | exact rot3 (by k_asm))); (focus k_asm); (focus (first | exact rfl | assumption)); (focus ktr_room); (focus ktr_units))
  k_with "x.t" => (intro t9 h9 tk9 F9 N9; (try dsimp only); (try k_fold))
  k_with "x.2" => (intro x9 t91 t92 h9 tk9 F9 N9 l9; (try k_lt l9); (try dsimp only); (try k_fold))
  k_with "x.3" => (intro x9 t91 t92 t93 h9 tk9 F9 N9 l9; (try k_lt l9); (try dsimp only); (try k_fold))
  k_with "x.4" => (intro x9 t91 t92 t93 t94 h9 tk9 F9 N9 l9; (try k_lt l9); (try dsimp only); (try k_fold))
  k_with "x.tt" => (intro t9 t91 h9 tk9 F9 N9; (try dsimp only); (try k_fold))
  k_with "x.take" => (intro d9 a9 b9 t9 t91 t92 n9 h9 tk9 hd0 hd1 ha9 hb9 hb99 F9 N9; (have hb9' := And.intro hb9 hb99); (try dsimp only); (try k_fold))
  k_with "x.r" => (intro e9 t9 ws9 h9 tk9 G9 FG9 R9 U9; (try dsimp only); (try k_fold))
  k_with "x.c" => (intro h9 tk9 g9 T9 F9 N9 B9 X9 P9 D9; (try dsimp only); (try k_fold))
  k_with "eval Name" => ((k_here; (first | ((with_reducible show wpAny _ _ (eval (Expr.Name _ _) (compEnvC _ _ _ _)) _ _ _); k_dflt (first | (name_kind "local"; refine' LCgL.ld_own ?_ ?_ ?_ ?_ ?_ ?_ ?_ ?_; rotate_right 8; rotate_left 6; (focus (first | kernel_rfl! | rfl)); rotate_right 6; rotate_left 5; (focus (rfl)); rotate_right 5; rotate_left 5; (focus (decide)); rotate_right 5; (focus (k_asm)); (focus (k_mem)); (focus (assumption)); (focus (assumption))) | (name_kind "globalImplicit"; first | (refine' LCgL.ld_global ?_ ?_ ?_ ?_ ?_ ?_ ?_ ?_ ?_; rotate_right 9; rotate_left 7; (focus (first | kernel_rfl! | rfl)); rotate_right 7; (focus (k_asm)); (focus (k_asm)); (focus (k_asm)); (focus (k_is)); rotate_left 1; (focus (rfl)); rotate_right 1; rotate_left 1; (focus (rfl)); rotate_right 1; rotate_left 1; (focus (decide)); rotate_right 1) | (refine' LCgL.ld_built ?_ ?_ ?_ ?_ ?_ ?_ ?_ ?_ ?_ ?_ ?_ ?_; rotate_right 12; rotate_left 10; (focus (first | kernel_rfl! | rfl)); rotate_right 10; (focus (k_asm)); (focus (k_asm)); (focus (k_asm)); (focus (k_is)); (focus (boot_by_name)); (focus (decide)); rotate_left 1; (focus (rfl)); rotate_right 1; rotate_left 1; (focus (rfl)); rotate_right 1; rotate_left 1; (focus (rfl)); rotate_right 1; rotate_left 1; (focus (decide)); rotate_right 1))) ) | ((fail_if_success (with_reducible show wpAny _ _ (eval (Expr.Name _ _) (compEnvC _ _ _ _)) _ _ _)); k_dflt (first | (name_kind "local"; refine' nameX_L ?_ ?_ ?_ ?_ ?_; rotate_right 5; rotate_left 4; (focus (first | kernel_rfl! | rfl)); rotate_right 4; rotate_left 3; (focus (rfl)); rotate_right 3; (focus (k_asm)); (focus (rfl)); k_whole) | (name_kind "globalImplicit"; first | (refine' nameX_K ?_ ?_ ?_ ?_ ?_ ?_ ?_; rotate_right 7; rotate_left 6; (focus (first | kernel_rfl! | rfl)); rotate_right 6; (focus (k_asm)); (focus (k_asm)); (focus (k_asm)); rotate_left 2; (focus (rfl)); rotate_right 2; (focus (k_is)); k_whole) | (refine' nameX_B ?_ ?_ ?_ ?_ ?_ ?_ ?_ ?_ ?_; rotate_right 9; rotate_left 8; (focus (first | kernel_rfl! | rfl)); rotate_right 8; (focus (k_asm)); (focus (k_asm)); (focus (k_asm)); rotate_left 4; (focus (rfl)); rotate_right 4; (focus (k_is)); (focus (boot_fast)); (focus (decide)); k_whole)) | (name_kind "cell"; refine' nameX_C ?_ ?_ ?_ ?_ ?_ ?_ ?_; rotate_right 7; rotate_left 6; (focus (first | kernel_rfl! | rfl)); rotate_right 6; rotate_left 5; (focus (rfl)); rotate_right 5; (focus (k_asm)); (focus (rfl)); (focus (k_mem)); (focus (k_asm)); k_whole))))))
  k_with "fold" => ((fail_if_success (fail_if_success k_fold)); (refine (let qk := _; let ek := _; (?_ : wpAny _ _ _ qk ek _))))
  k_with "isTrue BoolOp" => (k_here; k_extra "fold")
  k_with "isTrue Compare" => (k_here; k_extra "fold")
  k_with "isTrue UnaryOp" => (k_here; k_extra "fold")
  k_with "eval Call" => (k_here; k_extra "fold")
  k_with "eval Compare" => (k_here; k_extra "fold")
  k_with "eval BinOp" => (k_here; k_extra "fold")
  k_with "eval Tuple" => (k_here; k_extra "fold")
  k_with "eval List" => (k_here; k_extra "fold")
  trivial
def PartIs (w : World) (mean : ExcName → Option Value) (mg mb : Str → Option Value) (x : Str) (v : Int) : Prop :=
  ∀ (t1 : Tok) (news : List (Addr × Obj)), CallOf w mean mg mb 214 [.str x t1] 8 news (fun h₀ L m s Q => CbRet h₀ L m news s Q fun t => .int v t)
theorem part_at {x : Str} {v : Int} (h : PartIs w mean mg mb x v) (t1 : Tok) (news : List (Addr × Obj)) : CallOf w mean mg mb 214 [.str x t1] 8 news (fun h₀ L m s Q => CbRet h₀ L m news s Q fun t => .int v t) := h t1 news
theorem strip3 {ys : List Value} {ws : List Str} {q1 q2 q3 : Str} (h : CarriedAll ys (List.map (fun a' => PyData.str (Txt.strip a')) (List.filter (fun _ => true) ws))) (e : ws = [q1, q2, q3]) :
    ∃ ta tb tc, ys = [.str (Txt.strip q1) ta, .str (Txt.strip q2) tb, .str (Txt.strip q3) tc] := by
  subst e
  obtain ⟨ta, v1, rfl, h1⟩ := carriedAll_str_inv h
  obtain ⟨tb, v2, rfl, h2⟩ := carriedAll_str_inv h1
  obtain ⟨tc, v3, rfl, h3⟩ := carriedAll_str_inv h2
  cases h3
  exact ⟨ta, tb, tc, rfl⟩
example : True := by
  k_with "call ref" => ((k_here; k_dflt (refine' callBy (part_at ?_ _ _) ?_ ?_; rotate_right 2; (focus (walk_at "x.p")); (all_goals skip); rotate_right 1; (focus (k_asm)); walk_at "x.t")))
  trivial
structure PFacts (pc : Bool) (p1 p2 p3 : Str) : Prop where
  l1 : p1.length ≤ 100
  l2 : p2.length ≤ 100
  l3 : p3.length ≤ 100
  n1 : (Txt.slice p1 (some (-1)) none == Str.ofString "%") = pc
  n2 : (Txt.slice p2 (some (-1)) none == Str.ofString "%") = pc
  n3 : (Txt.slice p3 (some (-1)) none == Str.ofString "%") = pc
structure PSplit (x q1 q2 q3 p1 p2 p3 : Str) : Prop where
  hs : Txt.split x (Str.ofString ",") = [q1, q2, q3]
  h1 : Txt.strip q1 = p1
  h2 : Txt.strip q2 = p2
  h3 : Txt.strip q3 = p3
theorem strip3P {ys : List Value} {ws : List Str} {x q1 q2 q3 p1 p2 p3 : Str} (h : CarriedAll ys (List.map (fun a' => PyData.str (Txt.strip a')) (List.filter (fun _ => true) ws))) (e : ws = Txt.split x (Str.ofString ",")) (H : PSplit x q1 q2 q3 p1 p2 p3) :
    ∃ ta tb tc, ys = [.str p1 ta, .str p2 tb, .str p3 tc] := by
  obtain ⟨hs, rfl, rfl, rfl⟩ := H
  exact strip3 h (e.trans hs)
example : True := by
  k_with "CompRestT" => ((with_unfolding_all first | (refine LCt.CompRestT.succ ?_; intro v' I' oI' C' oC' D' m' h' tk' E' hv' hC' hx' F' N' off' ne'; (first | lcg_open hv' | (obtain ⟨t9', hv9'⟩ := hv'; subst hv9')); replace ne' := apart3 ne') | refine LCt.CompRestT.zero ?_))
  trivial
example : True := by
  k_with "CompRest" => ((with_unfolding_all first | (refine LCg.CompRest.succ ?_; intro v' I' oI' C' oC' D' m' h' tk' E' hv' hC' hx' F' N' off' ne'; (first | lcg_open hv' | (obtain ⟨t9', hv9'⟩ := hv'; subst hv9')); replace ne' := apart3 ne') | refine LCg.CompRest.zero ?_))
  trivial
example : True := by
  k_with "CompEnd" => ((first | refine LCg.CompEnd.intro (by assumption) (by assumption) _ (fun p hp => hp) (by assumption) (by lcg_src) ?_ | refine LCg.CompEnd.intro (by assumption) (by assumption) _ (fun p hp => List.mem_cons_of_mem _ hp) (by assumption) (by lcg_src) ?_ | refine LCg.CompEnd.intro (by assumption) (by assumption) _ (fun p hp => List.mem_cons_of_mem _ (List.mem_cons_of_mem _ hp)) (by assumption) (by lcg_src) ?_))
  trivial
example : True := by
  k_with "FinE" => (((unfold LCg.FinE); intro D' h' tk' F' N' o1'; (try simp only [List.nil_append, List.cons_append] at N'); (try dsimp only)))
  trivial
example : True := by
  k_with "k_ne" => ((refine neN ?_; first | assumption | exact Ne.symm (by assumption) | exact Apart3.ic (by assumption) | exact Apart3.id (by assumption) | exact Apart3.cd (by assumption) | exact off3_i (by assumption) (by k_mem) | exact off3_c (by assumption) (by k_mem) | exact off3_d (by assumption) (by k_mem) | exact off1_d (by assumption) (by k_mem) | exact Ne.symm (off3_i (by assumption) (by k_mem)) | exact Ne.symm (off3_c (by assumption) (by k_mem)) | exact Ne.symm (off3_d (by assumption) (by k_mem)) | exact Ne.symm (off1_d (by assumption) (by k_mem))))
  trivial
example : True := by
  k_with "eval ListComp" => ((k_here; lcg_look; k_dflt (refine LCg.ListComp_U (F₀ := by k_asm) (by with_unfolding_all rfl) (by decide) (by rfl) (by decide) (by rfl) ?_); k_dflt lcg_toSrc))
  trivial
set_option maxHeartbeats 4000000 in
theorem parts_num (x q1 q2 q3 p1 p2 p3 : Str) (t1 : Tok) (v1 v2 v3 : Int) (hx : x.length ≤ 100) (H : PSplit x q1 q2 q3 p1 p2 p3) (P : PFacts false p1 p2 p3)
    (r1 : PartIs w mean mg mb p1 v1) (r2 : PartIs w mean mg mb p2 v2) (r3 : PartIs w mean mg mb p3 v3) (news : List (Addr × Obj)) :
    CallOf w mean mg mb 219 [.str x t1] 10 news (fun h₀ L m s Q => Ret3 h₀ L m news s Q v1 v2 v3) := by
  dsimp only [CallOf]
  intro dp un gd cn cs a9 ccd cl outer A₀ base h₀ L m s Q E B F X N T hk hd9 hu9 hret
  suffices hz : (laid.heap_1 = laid.heap_1 → PySem.Challenge.rw_nu0021_01 = PySem.Challenge.rw_nu0021_01 → _) from hz rfl rfl
  k_fill
  intro _ _
  refine wpAny_call ?_
  k_dflt (refine' code_def ?k1 ?k2 ?k3 ?k4 ?k5 ?kA ?kF ?kK ?k6 ?k7 ?k8 ?k9 ?kB ?_ ?c2 ?c3 ?c4 ?c5; (case kA => exact rfl); (case kF => exact rfl); (case kK => assumption); (case k1 => k_asm); (case k2 => k_asm); (case k3 => k_asm); (case k4 => k_asm); (case k5 => k_asm); (case k6 => k_is); (case k7 => k_is); (case k8 => ktr_room); (case k9 => first | exact BindsTo.of_eq rfl | exact binds_K (by k_in) rfl (by k_is) rfl rfl rfl); (case c5 => decide); (case kB => exact locs rfl); (case c2 => exact rfl); (case c3 => exact rfl); (case c4 => exact rfl); k_whole; intro g' L' h' FG' F' N' B' X' T'; (try dsimp only); (try k_lift B'); (try k_fold))
  k_steps
  with_reducible rename _ = Txt.split _ _ => hsp
  with_reducible rename CarriedAll _ _ => hc
  obtain ⟨ta, tb, tc, rfl⟩ := strip3P hc hsp H
  clear hc H hsp
  obtain ⟨l1, l2, l3, n1, n2, n3⟩ := P
  k_steps
  refine' hret _ _ _ _ _ _ ?zf1 ?zn1 ?zo1
  case zf1 => assumption
  case zn1 => exact cb_drop (by assumption) (List.forall_mem_cons.mpr ⟨List.Mem.head _, fun p hp => by repeat (first | exact hp | refine List.mem_cons_of_mem _ ?_)⟩)
  case zo1 => (first | exact lts_of (by assumption) (fun p hp => by repeat (first | exact hp | refine List.mem_cons_of_mem _ ?_)) | (intro p9 hp9; (repeat' (first | (with_reducible rename (∀ p : Addr × Obj, p ∈ (_ : List (Addr × Obj)) → @LT.lt Nat _ p.1 _) => hq9; first | replace hq9 := ltN (hq9 p9 hp9) | clear hq9) | (with_reducible rename AllLt _ _ => hq9; first | replace hq9 := ltN (ktn_ltOf hq9 p9 hp9) | clear hq9) | (with_reducible rename (_ ∧ AllLt _ _) => hq9; obtain ⟨hz9, hq9⟩ := hq9) | (with_reducible rename (_ ∧ _ ∧ AllLt _ _) => hq9; obtain ⟨hz9, hq9⟩ := hq9) | (with_reducible rename (_ ∧ _ ∧ _ ∧ AllLt _ _) => hq9; obtain ⟨hz9, hq9⟩ := hq9) | (with_reducible rename (_ ∧ _ ∧ _ ∧ _ ∧ AllLt _ _) => hq9; obtain ⟨hz9, hq9⟩ := hq9) | (with_reducible rename (_ ∧ _ ∧ _ ∧ _ ∧ _ ∧ AllLt _ _) => hq9; obtain ⟨hz9, hq9⟩ := hq9) | (with_reducible rename (_ ∧ _ ∧ _ ∧ _ ∧ _ ∧ _ ∧ AllLt _ _) => hq9; obtain ⟨hz9, hq9⟩ := hq9) | (with_reducible rename (_ ∧ _ ∧ _ ∧ _ ∧ _ ∧ _ ∧ _ ∧ AllLt _ _) => hq9; obtain ⟨hz9, hq9⟩ := hq9) | (with_reducible rename (_ ∧ _ ∧ _ ∧ _ ∧ _ ∧ _ ∧ _ ∧ _ ∧ AllLt _ _) => hq9; obtain ⟨hz9, hq9⟩ := hq9))); first | assumption | (refine ltN ?_; omega)))
set_option maxHeartbeats 4000000 in
theorem parts_pct (x q1 q2 q3 p1 p2 p3 : Str) (t1 : Tok) (v1 v2 v3 : Int) (hx : x.length ≤ 100) (H : PSplit x q1 q2 q3 p1 p2 p3) (P : PFacts true p1 p2 p3)
    (r1 : PartIs w mean mg mb p1 v1) (r2 : PartIs w mean mg mb p2 v2) (r3 : PartIs w mean mg mb p3 v3) (news : List (Addr × Obj)) :
    CallOf w mean mg mb 219 [.str x t1] 10 news (fun h₀ L m s Q => Ret3 h₀ L m news s Q v1 v2 v3) := by
  dsimp only [CallOf]
  intro dp un gd cn cs a9 ccd cl outer A₀ base h₀ L m s Q E B F X N T hk hd9 hu9 hret
  suffices hz : (laid.heap_1 = laid.heap_1 → PySem.Challenge.rw_nu0021_01 = PySem.Challenge.rw_nu0021_01 → _) from hz rfl rfl
  k_fill
  intro _ _
  refine wpAny_call ?_
  k_dflt (refine' code_def ?k1 ?k2 ?k3 ?k4 ?k5 ?kA ?kF ?kK ?k6 ?k7 ?k8 ?k9 ?kB ?_ ?c2 ?c3 ?c4 ?c5; (case kA => exact rfl); (case kF => exact rfl); (case kK => assumption); (case k1 => k_asm); (case k2 => k_asm); (case k3 => k_asm); (case k4 => k_asm); (case k5 => k_asm); (case k6 => k_is); (case k7 => k_is); (case k8 => ktr_room); (case k9 => first | exact BindsTo.of_eq rfl | exact binds_K (by k_in) rfl (by k_is) rfl rfl rfl); (case c5 => decide); (case kB => exact locs rfl); (case c2 => exact rfl); (case c3 => exact rfl); (case c4 => exact rfl); k_whole; intro g' L' h' FG' F' N' B' X' T'; (try dsimp only); (try k_lift B'); (try k_fold))
  k_steps
  with_reducible rename _ = Txt.split _ _ => hsp
  with_reducible rename CarriedAll _ _ => hc
  obtain ⟨ta, tb, tc, rfl⟩ := strip3P hc hsp H
  clear hc H hsp
  obtain ⟨l1, l2, l3, n1, n2, n3⟩ := P
  k_steps
  refine' hret _ _ _ _ _ _ ?zf1 ?zn1 ?zo1
  case zf1 => assumption
  case zn1 => exact cb_drop (by assumption) (List.forall_mem_cons.mpr ⟨List.Mem.head _, fun p hp => by repeat (first | exact hp | refine List.mem_cons_of_mem _ ?_)⟩)
  case zo1 => (first | exact lts_of (by assumption) (fun p hp => by repeat (first | exact hp | refine List.mem_cons_of_mem _ ?_)) | (intro p9 hp9; (repeat' (first | (with_reducible rename (∀ p : Addr × Obj, p ∈ (_ : List (Addr × Obj)) → @LT.lt Nat _ p.1 _) => hq9; first | replace hq9 := ltN (hq9 p9 hp9) | clear hq9) | (with_reducible rename AllLt _ _ => hq9; first | replace hq9 := ltN (ktn_ltOf hq9 p9 hp9) | clear hq9) | (with_reducible rename (_ ∧ AllLt _ _) => hq9; obtain ⟨hz9, hq9⟩ := hq9) | (with_reducible rename (_ ∧ _ ∧ AllLt _ _) => hq9; obtain ⟨hz9, hq9⟩ := hq9) | (with_reducible rename (_ ∧ _ ∧ _ ∧ AllLt _ _) => hq9; obtain ⟨hz9, hq9⟩ := hq9) | (with_reducible rename (_ ∧ _ ∧ _ ∧ _ ∧ AllLt _ _) => hq9; obtain ⟨hz9, hq9⟩ := hq9) | (with_reducible rename (_ ∧ _ ∧ _ ∧ _ ∧ _ ∧ AllLt _ _) => hq9; obtain ⟨hz9, hq9⟩ := hq9) | (with_reducible rename (_ ∧ _ ∧ _ ∧ _ ∧ _ ∧ _ ∧ AllLt _ _) => hq9; obtain ⟨hz9, hq9⟩ := hq9) | (with_reducible rename (_ ∧ _ ∧ _ ∧ _ ∧ _ ∧ _ ∧ _ ∧ AllLt _ _) => hq9; obtain ⟨hz9, hq9⟩ := hq9) | (with_reducible rename (_ ∧ _ ∧ _ ∧ _ ∧ _ ∧ _ ∧ _ ∧ _ ∧ AllLt _ _) => hq9; obtain ⟨hz9, hq9⟩ := hq9))); first | assumption | (refine ltN ?_; omega)))
end

section
example : True := by
  k_with_none
  k_with "k_all" => (first | assumption | (intro p9 hp9; (repeat' (first | (with_reducible rename (∀ p : Addr × Obj, p ∈ (_ : List (Addr × Obj)) → @LT.lt Nat _ p.1 _) => hq9; first | replace hq9 := ltN (hq9 p9 hp9) | clear hq9) | (with_reducible rename AllLt _ _ => hq9; first | replace hq9 := ltN (ktn_ltOf hq9 p9 hp9) | clear hq9) | (with_reducible rename (_ ∧ AllLt _ _) => hq9; obtain ⟨hz9, hq9⟩ := hq9))); (refine neN ?_); omega))
  k_with "k_ne" => ((refine neN ?_; (try dsimp only); first | with_reducible assumption | exact Ne.symm (by with_reducible assumption) | exact ne_above (by with_reducible assumption) (by k_mem) | exact Ne.symm (ne_above (by with_reducible assumption) (by k_mem)) | exact ne_above1 (by with_reducible assumption) (by k_mem) | exact Ne.symm (ne_above1 (by with_reducible assumption) (by k_mem))))
  k_with "room" => (first | exact room_at (by with_reducible assumption) rfl rfl | exact room_at0 (by with_reducible assumption) rfl | exact room_at1 (by with_reducible assumption) rfl rfl)
  k_with "units" => (exact units_at (by with_reducible assumption) rfl rfl)
  k_with "x.p" => (refine' Prem.mk ?_ ?_ ?_ ?_ ?_ ?_ ?_ ?_; rotate_right 8; (focus k_asm); (focus k_asm); (focus k_asm); (focus (k_asm)); (focus k_asm); (focus (first | exact rfl | assumption)); (focus ktr_room); (focus ktr_units))
  k_with "x.pn" => (refine' Prem.mk ?_ ?_ ?_ ?_ ?_ ?_ ?_ ?_; rotate_right 8; (focus k_asm); (focus k_asm); (focus k_asm); (focus (first | k_asm | exact news_rot1 (by k_asm) | exact news_rot2 (by k_asm))); (focus k_asm); (focus (first | exact rfl | assumption)); (focus ktr_room); (focus ktr_units))
  k_with "x.pr" => (refine' Prem.mk ?_ ?_ ?_ ?_ ?_ ?_ ?_ ?_; rotate_right 8; (focus k_asm); (focus k_asm); (focus k_asm); (focus (first | k_asm | exact rot1 (by k_asm) | exact rot2 (by k_asm) | exact rot3 (by k_asm))); (focus k_asm); (focus (first | exact rfl | assumption)); (focus ktr_room); (focus ktr_units))
  k_with "x.t" => (intro t9 h9 tk9 F9 N9; (try dsimp only); (try k_fold))
  k_with "x.2" => (intro x9 t91 t92 h9 tk9 F9 N9 l9; (try k_lt l9); (try dsimp only); (try k_fold))
  k_with "x.3" => (intro x9 t91 t92 t93 h9 tk9 F9 N9 l9; (try k_lt l9); (try dsimp only); (try k_fold))
  k_with "x.4" => (intro x9 t91 t92 t93 t94 h9 tk9 F9 N9 l9; (try k_lt l9); (try dsimp only); (try k_fold))
  k_with "x.tt" => (intro t9 t91 h9 tk9 F9 N9; (try dsimp only); (try k_fold))
  k_with "x.take" => (intro d9 a9 b9 t9 t91 t92 n9 h9 tk9 hd0 hd1 ha9 hb9 hb99 F9 N9; (have hb9' := And.intro hb9 hb99); (try dsimp only); (try k_fold))
  k_with "x.r" => (intro e9 t9 ws9 h9 tk9 G9 FG9 R9 U9; (try dsimp only); (try k_fold))
  k_with "x.c" => (intro h9 tk9 g9 T9 F9 N9 B9 X9 P9 D9; (try dsimp only); (try k_fold))
  k_with "eval Name" => ((k_here; (first | ((with_reducible show wpAny _ _ (eval (Expr.Name _ _) (compEnvC _ _ _ _)) _ _ _); k_dflt (first | (name_kind "local"; refine' LCgL.ld_own ?_ ?_ ?_ ?_ ?_ ?_ ?_ ?_; rotate_right 8; rotate_left 6; (focus (first | kernel_rfl! | rfl)); rotate_right 6; rotate_left 5; (focus (rfl)); rotate_right 5; rotate_left 5; (focus (decide)); rotate_right 5; (focus (k_asm)); (focus (k_mem)); (focus (assumption)); (focus (assumption))) | (name_kind "globalImplicit"; first | (refine' LCgL.ld_global ?_ ?_ ?_ ?_ ?_ ?_ ?_ ?_ ?_; rotate_right 9; rotate_left 7; (focus (first | kernel_rfl! | rfl)); rotate_right 7; (focus (k_asm)); (focus (k_asm)); (focus (k_asm)); (focus (k_is)); rotate_left 1; (focus (rfl)); rotate_right 1; rotate_left 1; (focus (rfl)); rotate_right 1; rotate_left 1; (focus (decide)); rotate_right 1) | (refine' LCgL.ld_built ?_ ?_ ?_ ?_ ?_ ?_ ?_ ?_ ?_ ?_ ?_ ?_; rotate_right 12; rotate_left 10; (focus (first | kernel_rfl! | rfl)); rotate_right 10; (focus (k_asm)); (focus (k_asm)); (focus (k_asm)); (focus (k_is)); (focus (boot_by_name)); (focus (decide)); rotate_left 1; (focus (rfl)); rotate_right 1; rotate_left 1; (focus (rfl)); rotate_right 1; rotate_left 1; (focus (rfl)); rotate_right 1; rotate_left 1; (focus (decide)); rotate_right 1))) ) | ((fail_if_success (with_reducible show wpAny _ _ (eval (Expr.Name _ _) (compEnvC _ _ _ _)) _ _ _)); k_dflt (first | (name_kind "local"; refine' nameX_L ?_ ?_ ?_ ?_ ?_; rotate_right 5; rotate_left 4; (focus (first | kernel_rfl! | rfl)); rotate_right 4; rotate_left 3; (focus (rfl)); rotate_right 3; (focus (k_asm)); (focus (rfl)); k_whole) | (name_kind "globalImplicit"; first | (refine' nameX_K ?_ ?_ ?_ ?_ ?_ ?_ ?_; rotate_right 7; rotate_left 6; (focus (first | kernel_rfl! | rfl)); rotate_right 6; (focus (k_asm)); (focus (k_asm)); (focus (k_asm)); rotate_left 2; (focus (rfl)); rotate_right 2; (focus (k_is)); k_whole) | (refine' nameX_B ?_ ?_ ?_ ?_ ?_ ?_ ?_ ?_ ?_; rotate_right 9; rotate_left 8; (focus (first | kernel_rfl! | rfl)); rotate_right 8; (focus (k_asm)); (focus (k_asm)); (focus (k_asm)); rotate_left 4; (focus (rfl)); rotate_right 4; (focus (k_is)); (focus (boot_fast)); (focus (decide)); k_whole)) | (name_kind "cell"; refine' nameX_C ?_ ?_ ?_ ?_ ?_ ?_ ?_; rotate_right 7; rotate_left 6; (focus (first | kernel_rfl! | rfl)); rotate_right 6; rotate_left 5; (focus (rfl)); rotate_right 5; (focus (k_asm)); (focus (rfl)); (focus (k_mem)); (focus (k_asm)); k_whole))))))
  k_with "fold" => ((fail_if_success (fail_if_success k_fold)); (refine (let qk := _; let ek := _; (?_ : wpAny _ _ _ qk ek _))))
  k_with "isTrue BoolOp" => (k_here; k_extra "fold")
  k_with "isTrue Compare" => (k_here; k_extra "fold")
  k_with "isTrue UnaryOp" => (k_here; k_extra "fold")
  k_with "eval Call" => (k_here; k_extra "fold")
  k_with "eval Compare" => (k_here; k_extra "fold")
  k_with "eval BinOp" => (k_here; k_extra "fold")
  k_with "eval Tuple" => (k_here; k_extra "fold")
  k_with "eval List" => (k_here; k_extra "fold")
  trivial
/-- a text's lowered form -/
structure LowTo (y T : Str) : Prop where
  len : y.length ≤ 100
  asc : ∀ c ∈ y.cps.toList, c < 128
  eq : lowS y = T
theorem lowered_at {y T : Str} (h : LowTo y T) (t1 : Tok) (news : List (Addr × Obj)) : CallOf w mean mg mb 195 [.str y t1] 1 news (fun h₀ L m s Q => CbRet h₀ L m news s Q fun t => .str T t) := by
  have := lowered_is (w := w) (mean := mean) (mg := mg) (mb := mb) y t1 h.len h.asc news
  rw [h.eq] at this
  exact this
def DigIs (w : World) (mean : ExcName → Option Value) (mg mb : Str → Option Value) (y : Str) (r g b : Int) : Prop :=
  ∀ (t1 : Tok) (news : List (Addr × Obj)), CallOf w mean mg mb 207 [.str y t1] 2 news (fun h₀ L m s Q => Ret3 h₀ L m news s Q r g b)
theorem dig_at {y : Str} {r g b : Int} (h : DigIs w mean mg mb y r g b) (t1 : Tok) (news : List (Addr × Obj)) : CallOf w mean mg mb 207 [.str y t1] 2 news (fun h₀ L m s Q => Ret3 h₀ L m news s Q r g b) := h t1 news
def PartsAre (w : World) (mean : ExcName → Option Value) (mg mb : Str → Option Value) (y : Str) (r g b : Int) : Prop :=
  ∀ (t1 : Tok) (news : List (Addr × Obj)), CallOf w mean mg mb 219 [.str y t1] 10 news (fun h₀ L m s Q => Ret3 h₀ L m news s Q r g b)
theorem parts_at {y : Str} {r g b : Int} (h : PartsAre w mean mg mb y r g b) (t1 : Tok) (news : List (Addr × Obj)) : CallOf w mean mg mb 219 [.str y t1] 10 news (fun h₀ L m s Q => Ret3 h₀ L m news s Q r g b) := h t1 news
/-- the name's digits in the long text -/
structure Named (T y : Str) : Prop where
  len : longText.length ≤ 4000
  cnt : (Txt.split longText (Str.ofString " ")).length = 294
  eq : lookW T (Txt.split longText (Str.ofString " ")) = some y
theorem lookV_some {x y : Str} {ws : List Str} (h : lookW x ws = some y) (t : Tok) : lookV x ws t = .str y t := by
  unfold lookV
  rw [h]
theorem lookV_none {x : Str} {ws : List Str} (h : lookW x ws = none) (t : Tok) : lookV x ws t = .none := by
  unfold lookV
  rw [h]
theorem call_cb {f : Addr} {vs : List Value} {room : Nat} {news : List (Addr × Obj)} {R R' : Tok → Value} (h : CallOf w mean mg mb f vs room news (fun h₀ L m s Q => CbRet h₀ L m news s Q R)) (e : ∀ t, R t = R' t) : CallOf w mean mg mb f vs room news (fun h₀ L m s Q => CbRet h₀ L m news s Q R') := by
  have : R = R' := funext e
  subst this
  exact h
theorem value_at {T y : Str} (h : Named T y) (t1 : Tok) (news : List (Addr × Obj)) : CallOf w mean mg mb 28 [.str T t1] 4 news (fun h₀ L m s Q => CbRet h₀ L m news s Q fun t => .str y t) :=
  call_cb (value_is T t1 h.len h.cnt news) (lookV_some h.eq)
example : True := by
  k_with "call ref" => ((k_here; k_dflt (refine' callBy (lowered_at ?_ _ _) ?_ ?_; rotate_right 2; (focus (walk_at "x.p")); (all_goals skip); rotate_right 1; (focus (k_asm)); walk_at "x.t")))
  trivial
example : True := by
  k_with "call ref" => ((k_here; k_dflt (refine' callBy (dig_at ?_ _ _) ?_ ?_; rotate_right 2; (focus (walk_at "x.p")); (all_goals skip); rotate_right 1; (focus (k_asm)); walk_at "x.3")))
  trivial
example : True := by
  k_with "call ref" => ((k_here; k_dflt (refine' callBy (parts_at ?_ _ _) ?_ ?_; rotate_right 2; (focus (walk_at "x.p")); (all_goals skip); rotate_right 1; (focus (k_asm)); walk_at "x.3")))
  trivial
example : True := by
  k_with "call ref" => ((k_here; k_dflt (refine' callBy (value_at ?_ _ _) ?_ ?_; rotate_right 2; (focus (walk_at "x.p")); (all_goals skip); rotate_right 1; (focus (k_asm)); walk_at "x.t")))
  trivial
set_option maxHeartbeats 4000000 in
theorem read_hash (x T : Str) (t1 : Tok) (r g b : Int) (hx : x.length ≤ 100) (hl : LowTo (Txt.strip x) T) (hT : T.length ≤ 100) (n0 : (T == Str.ofString "none") = false) (n1 : (Txt.slice T none (some 1) == Str.ofString "#") = true)
    (hd : DigIs w mean mg mb (Txt.slice T (some 1) none) r g b) (news : List (Addr × Obj)) :
    CallOf w mean mg mb 226 [.str x t1] 11 news (fun h₀ L m s Q => Ret3 h₀ L m news s Q r g b) := by
  dsimp only [CallOf]
  intro dp un gd cn cs a9 ccd cl outer A₀ base h₀ L m s Q E B F X N T hk hd9 hu9 hret
  suffices hz : (laid.heap_1 = laid.heap_1 → PySem.Challenge.rw_nu0021_01 = PySem.Challenge.rw_nu0021_01 → _) from hz rfl rfl
  k_fill
  intro _ _
  refine wpAny_call ?_
  k_dflt (refine' code_def ?k1 ?k2 ?k3 ?k4 ?k5 ?kA ?kF ?kK ?k6 ?k7 ?k8 ?k9 ?kB ?_ ?c2 ?c3 ?c4 ?c5; (case kA => exact rfl); (case kF => exact rfl); (case kK => assumption); (case k1 => k_asm); (case k2 => k_asm); (case k3 => k_asm); (case k4 => k_asm); (case k5 => k_asm); (case k6 => k_is); (case k7 => k_is); (case k8 => ktr_room); (case k9 => first | exact BindsTo.of_eq rfl | exact binds_K (by k_in) rfl (by k_is) rfl rfl rfl); (case c5 => decide); (case kB => exact locs rfl); (case c2 => exact rfl); (case c3 => exact rfl); (case c4 => exact rfl); k_whole; intro g' L' h' FG' F' N' B' X' T'; (try dsimp only); (try k_lift B'); (try k_fold))
  k_steps
  refine' hret _ _ _ _ _ _ ?zf1 ?zn1 ?zo1
  case zf1 => assumption
  case zn1 => first | assumption | exact cb_drop (by assumption) (List.forall_mem_cons.mpr ⟨List.Mem.head _, fun p hp => by repeat (first | exact hp | refine List.mem_cons_of_mem _ ?_)⟩)
  case zo1 => (first | exact lts_of (by assumption) (fun p hp => by repeat (first | exact hp | refine List.mem_cons_of_mem _ ?_)) | (intro p9 hp9; (repeat' (first | (with_reducible rename (∀ p : Addr × Obj, p ∈ (_ : List (Addr × Obj)) → @LT.lt Nat _ p.1 _) => hq9; first | replace hq9 := ltN (hq9 p9 hp9) | clear hq9) | (with_reducible rename AllLt _ _ => hq9; first | replace hq9 := ltN (ktn_ltOf hq9 p9 hp9) | clear hq9) | (with_reducible rename (_ ∧ AllLt _ _) => hq9; obtain ⟨hz9, hq9⟩ := hq9) | (with_reducible rename (_ ∧ _ ∧ AllLt _ _) => hq9; obtain ⟨hz9, hq9⟩ := hq9) | (with_reducible rename (_ ∧ _ ∧ _ ∧ AllLt _ _) => hq9; obtain ⟨hz9, hq9⟩ := hq9) | (with_reducible rename (_ ∧ _ ∧ _ ∧ _ ∧ AllLt _ _) => hq9; obtain ⟨hz9, hq9⟩ := hq9) | (with_reducible rename (_ ∧ _ ∧ _ ∧ _ ∧ _ ∧ AllLt _ _) => hq9; obtain ⟨hz9, hq9⟩ := hq9) | (with_reducible rename (_ ∧ _ ∧ _ ∧ _ ∧ _ ∧ _ ∧ AllLt _ _) => hq9; obtain ⟨hz9, hq9⟩ := hq9) | (with_reducible rename (_ ∧ _ ∧ _ ∧ _ ∧ _ ∧ _ ∧ _ ∧ AllLt _ _) => hq9; obtain ⟨hz9, hq9⟩ := hq9) | (with_reducible rename (_ ∧ _ ∧ _ ∧ _ ∧ _ ∧ _ ∧ _ ∧ _ ∧ AllLt _ _) => hq9; obtain ⟨hz9, hq9⟩ := hq9))); first | assumption | (refine ltN ?_; omega)))
set_option maxHeartbeats 4000000 in
theorem read_rgb (x T : Str) (t1 : Tok) (r g b : Int) (hx : x.length ≤ 100) (hl : LowTo (Txt.strip x) T) (hT : T.length ≤ 100) (n0 : (T == Str.ofString "none") = false) (n1 : (Txt.slice T none (some 1) == Str.ofString "#") = false)
    (n2 : (Txt.slice T none (some 4) == Str.ofString "rgb(") = true) (n3 : (Txt.slice T (some (-1)) none == Str.ofString ")") = true)
    (hd : PartsAre w mean mg mb (Txt.slice T (some 4) (some (-1))) r g b) (news : List (Addr × Obj)) :
    CallOf w mean mg mb 226 [.str x t1] 11 news (fun h₀ L m s Q => Ret3 h₀ L m news s Q r g b) := by
  dsimp only [CallOf]
  intro dp un gd cn cs a9 ccd cl outer A₀ base h₀ L m s Q E B F X N T hk hd9 hu9 hret
  suffices hz : (laid.heap_1 = laid.heap_1 → PySem.Challenge.rw_nu0021_01 = PySem.Challenge.rw_nu0021_01 → _) from hz rfl rfl
  k_fill
  intro _ _
  refine wpAny_call ?_
  k_dflt (refine' code_def ?k1 ?k2 ?k3 ?k4 ?k5 ?kA ?kF ?kK ?k6 ?k7 ?k8 ?k9 ?kB ?_ ?c2 ?c3 ?c4 ?c5; (case kA => exact rfl); (case kF => exact rfl); (case kK => assumption); (case k1 => k_asm); (case k2 => k_asm); (case k3 => k_asm); (case k4 => k_asm); (case k5 => k_asm); (case k6 => k_is); (case k7 => k_is); (case k8 => ktr_room); (case k9 => first | exact BindsTo.of_eq rfl | exact binds_K (by k_in) rfl (by k_is) rfl rfl rfl); (case c5 => decide); (case kB => exact locs rfl); (case c2 => exact rfl); (case c3 => exact rfl); (case c4 => exact rfl); k_whole; intro g' L' h' FG' F' N' B' X' T'; (try dsimp only); (try k_lift B'); (try k_fold))
  k_steps
  refine' hret _ _ _ _ _ _ ?zf1 ?zn1 ?zo1
  case zf1 => assumption
  case zn1 => first | assumption | exact cb_drop (by assumption) (List.forall_mem_cons.mpr ⟨List.Mem.head _, fun p hp => by repeat (first | exact hp | refine List.mem_cons_of_mem _ ?_)⟩)
  case zo1 => (first | exact lts_of (by assumption) (fun p hp => by repeat (first | exact hp | refine List.mem_cons_of_mem _ ?_)) | (intro p9 hp9; (repeat' (first | (with_reducible rename (∀ p : Addr × Obj, p ∈ (_ : List (Addr × Obj)) → @LT.lt Nat _ p.1 _) => hq9; first | replace hq9 := ltN (hq9 p9 hp9) | clear hq9) | (with_reducible rename AllLt _ _ => hq9; first | replace hq9 := ltN (ktn_ltOf hq9 p9 hp9) | clear hq9) | (with_reducible rename (_ ∧ AllLt _ _) => hq9; obtain ⟨hz9, hq9⟩ := hq9) | (with_reducible rename (_ ∧ _ ∧ AllLt _ _) => hq9; obtain ⟨hz9, hq9⟩ := hq9) | (with_reducible rename (_ ∧ _ ∧ _ ∧ AllLt _ _) => hq9; obtain ⟨hz9, hq9⟩ := hq9) | (with_reducible rename (_ ∧ _ ∧ _ ∧ _ ∧ AllLt _ _) => hq9; obtain ⟨hz9, hq9⟩ := hq9) | (with_reducible rename (_ ∧ _ ∧ _ ∧ _ ∧ _ ∧ AllLt _ _) => hq9; obtain ⟨hz9, hq9⟩ := hq9) | (with_reducible rename (_ ∧ _ ∧ _ ∧ _ ∧ _ ∧ _ ∧ AllLt _ _) => hq9; obtain ⟨hz9, hq9⟩ := hq9) | (with_reducible rename (_ ∧ _ ∧ _ ∧ _ ∧ _ ∧ _ ∧ _ ∧ AllLt _ _) => hq9; obtain ⟨hz9, hq9⟩ := hq9) | (with_reducible rename (_ ∧ _ ∧ _ ∧ _ ∧ _ ∧ _ ∧ _ ∧ _ ∧ AllLt _ _) => hq9; obtain ⟨hz9, hq9⟩ := hq9))); first | assumption | (refine ltN ?_; omega)))
set_option maxHeartbeats 4000000 in
theorem read_name (x T y : Str) (t1 : Tok) (r g b : Int) (hx : x.length ≤ 100) (hl : LowTo (Txt.strip x) T) (hT : T.length ≤ 100) (n0 : (T == Str.ofString "none") = false) (n1 : (Txt.slice T none (some 1) == Str.ofString "#") = false)
    (n2 : (Txt.slice T none (some 4) == Str.ofString "rgb(") = false) (hn : Named T y)
    (hd : DigIs w mean mg mb y r g b) (news : List (Addr × Obj)) :
    CallOf w mean mg mb 226 [.str x t1] 11 news (fun h₀ L m s Q => Ret3 h₀ L m news s Q r g b) := by
  dsimp only [CallOf]
  intro dp un gd cn cs a9 ccd cl outer A₀ base h₀ L m s Q E B F X N T hk hd9 hu9 hret
  suffices hz : (laid.heap_1 = laid.heap_1 → PySem.Challenge.rw_nu0021_01 = PySem.Challenge.rw_nu0021_01 → _) from hz rfl rfl
  k_fill
  intro _ _
  refine wpAny_call ?_
  k_dflt (refine' code_def ?k1 ?k2 ?k3 ?k4 ?k5 ?kA ?kF ?kK ?k6 ?k7 ?k8 ?k9 ?kB ?_ ?c2 ?c3 ?c4 ?c5; (case kA => exact rfl); (case kF => exact rfl); (case kK => assumption); (case k1 => k_asm); (case k2 => k_asm); (case k3 => k_asm); (case k4 => k_asm); (case k5 => k_asm); (case k6 => k_is); (case k7 => k_is); (case k8 => ktr_room); (case k9 => first | exact BindsTo.of_eq rfl | exact binds_K (by k_in) rfl (by k_is) rfl rfl rfl); (case c5 => decide); (case kB => exact locs rfl); (case c2 => exact rfl); (case c3 => exact rfl); (case c4 => exact rfl); k_whole; intro g' L' h' FG' F' N' B' X' T'; (try dsimp only); (try k_lift B'); (try k_fold))
  k_steps
  refine' hret _ _ _ _ _ _ ?zf1 ?zn1 ?zo1
  case zf1 => assumption
  case zn1 => first | assumption | exact cb_drop (by assumption) (List.forall_mem_cons.mpr ⟨List.Mem.head _, fun p hp => by repeat (first | exact hp | refine List.mem_cons_of_mem _ ?_)⟩)
  case zo1 => (first | exact lts_of (by assumption) (fun p hp => by repeat (first | exact hp | refine List.mem_cons_of_mem _ ?_)) | (intro p9 hp9; (repeat' (first | (with_reducible rename (∀ p : Addr × Obj, p ∈ (_ : List (Addr × Obj)) → @LT.lt Nat _ p.1 _) => hq9; first | replace hq9 := ltN (hq9 p9 hp9) | clear hq9) | (with_reducible rename AllLt _ _ => hq9; first | replace hq9 := ltN (ktn_ltOf hq9 p9 hp9) | clear hq9) | (with_reducible rename (_ ∧ AllLt _ _) => hq9; obtain ⟨hz9, hq9⟩ := hq9) | (with_reducible rename (_ ∧ _ ∧ AllLt _ _) => hq9; obtain ⟨hz9, hq9⟩ := hq9) | (with_reducible rename (_ ∧ _ ∧ _ ∧ AllLt _ _) => hq9; obtain ⟨hz9, hq9⟩ := hq9) | (with_reducible rename (_ ∧ _ ∧ _ ∧ _ ∧ AllLt _ _) => hq9; obtain ⟨hz9, hq9⟩ := hq9) | (with_reducible rename (_ ∧ _ ∧ _ ∧ _ ∧ _ ∧ AllLt _ _) => hq9; obtain ⟨hz9, hq9⟩ := hq9) | (with_reducible rename (_ ∧ _ ∧ _ ∧ _ ∧ _ ∧ _ ∧ AllLt _ _) => hq9; obtain ⟨hz9, hq9⟩ := hq9) | (with_reducible rename (_ ∧ _ ∧ _ ∧ _ ∧ _ ∧ _ ∧ _ ∧ AllLt _ _) => hq9; obtain ⟨hz9, hq9⟩ := hq9) | (with_reducible rename (_ ∧ _ ∧ _ ∧ _ ∧ _ ∧ _ ∧ _ ∧ _ ∧ AllLt _ _) => hq9; obtain ⟨hz9, hq9⟩ := hq9))); first | assumption | (refine ltN ?_; omega)))
set_option maxHeartbeats 4000000 in
theorem read_none (x T : Str) (t1 : Tok) (hx : x.length ≤ 100) (hl : LowTo (Txt.strip x) T) (hT : T.length ≤ 100) (n0 : (T == Str.ofString "none") = true) (news : List (Addr × Obj)) :
    CallOf w mean mg mb 226 [.str x t1] 11 news (fun h₀ L m s Q => CbRet h₀ L m news s Q fun _ => .none) := by
  dsimp only [CallOf]
  intro dp un gd cn cs a9 ccd cl outer A₀ base h₀ L m s Q E B F X N T hk hd9 hu9 hret
  suffices hz : (laid.heap_1 = laid.heap_1 → PySem.Challenge.rw_nu0021_01 = PySem.Challenge.rw_nu0021_01 → _) from hz rfl rfl
  k_fill
  intro _ _
  refine wpAny_call ?_
  k_dflt (refine' code_def ?k1 ?k2 ?k3 ?k4 ?k5 ?kA ?kF ?kK ?k6 ?k7 ?k8 ?k9 ?kB ?_ ?c2 ?c3 ?c4 ?c5; (case kA => exact rfl); (case kF => exact rfl); (case kK => assumption); (case k1 => k_asm); (case k2 => k_asm); (case k3 => k_asm); (case k4 => k_asm); (case k5 => k_asm); (case k6 => k_is); (case k7 => k_is); (case k8 => ktr_room); (case k9 => first | exact BindsTo.of_eq rfl | exact binds_K (by k_in) rfl (by k_is) rfl rfl rfl); (case c5 => decide); (case kB => exact locs rfl); (case c2 => exact rfl); (case c3 => exact rfl); (case c4 => exact rfl); k_whole; intro g' L' h' FG' F' N' B' X' T'; (try dsimp only); (try k_lift B'); (try k_fold))
  k_steps
  exact hret 0 _ _ (by assumption) (by assumption)
end

section
example : True := by
  k_with_none
  k_with "k_all" => (first | assumption | (intro p9 hp9; (repeat' (first | (with_reducible rename (∀ p : Addr × Obj, p ∈ (_ : List (Addr × Obj)) → @LT.lt Nat _ p.1 _) => hq9; first | replace hq9 := ltN (hq9 p9 hp9) | clear hq9) | (with_reducible rename AllLt _ _ => hq9; first | replace hq9 := ltN (ktn_ltOf hq9 p9 hp9) | clear hq9) | (with_reducible rename (_ ∧ AllLt _ _) => hq9; obtain ⟨hz9, hq9⟩ := hq9))); (refine neN ?_); omega))
  k_with "k_ne" => ((refine neN ?_; (try dsimp only); first | with_reducible assumption | exact Ne.symm (by with_reducible assumption) | exact ne_above (by with_reducible assumption) (by k_mem) | exact Ne.symm (ne_above (by with_reducible assumption) (by k_mem)) | exact ne_above1 (by with_reducible assumption) (by k_mem) | exact Ne.symm (ne_above1 (by with_reducible assumption) (by k_mem))))
  k_with "room" => (first | exact room_at (by with_reducible assumption) rfl rfl | exact room_at0 (by with_reducible assumption) rfl | exact room_at1 (by with_reducible assumption) rfl rfl)
  k_with "units" => (exact units_at (by with_reducible assumption) rfl rfl)
  k_with "x.p" => (refine' Prem.mk ?_ ?_ ?_ ?_ ?_ ?_ ?_ ?_; rotate_right 8; (focus k_asm); (focus k_asm); (focus k_asm); (focus (k_asm)); (focus k_asm); (focus (first | exact rfl | assumption)); (focus ktr_room); (focus ktr_units))
  k_with "x.pn" => (refine' Prem.mk ?_ ?_ ?_ ?_ ?_ ?_ ?_ ?_; rotate_right 8; (focus k_asm); (focus k_asm); (focus k_asm); (focus (first | k_asm | exact news_rot1 (by k_asm) | exact news_rot2 (by k_asm))); (focus k_asm); (focus (first | exact rfl | assumption)); (focus ktr_room); (focus ktr_units))
  k_with "x.pr" => (refine' Prem.mk ?_ ?_ ?_ ?_ ?_ ?_ ?_ ?_; rotate_right 8; (focus k_asm); (focus k_asm); (focus k_asm); (focus (first | k_asm | exact rot1 (by k_asm) | exact rot2 (by k_asm) | exact rot3 (by k_asm))); (focus k_asm); (focus (first | exact rfl | assumption)); (focus ktr_room); (focus ktr_units))
  k_with "x.t" => (intro t9 h9 tk9 F9 N9; (try dsimp only); (try k_fold))
  k_with "x.2" => (intro x9 t91 t92 h9 tk9 F9 N9 l9; (try k_lt l9); (try dsimp only); (try k_fold))
  k_with "x.3" => (intro x9 t91 t92 t93 h9 tk9 F9 N9 l9; (try k_lt l9); (try dsimp only); (try k_fold))
  k_with "x.4" => (intro x9 t91 t92 t93 t94 h9 tk9 F9 N9 l9; (try k_lt l9); (try dsimp only); (try k_fold))
  k_with "x.tt" => (intro t9 t91 h9 tk9 F9 N9; (try dsimp only); (try k_fold))
  k_with "x.take" => (intro d9 a9 b9 t9 t91 t92 n9 h9 tk9 hd0 hd1 ha9 hb9 hb99 F9 N9; (have hb9' := And.intro hb9 hb99); (try dsimp only); (try k_fold))
  k_with "x.r" => (intro e9 t9 ws9 h9 tk9 G9 FG9 R9 U9; (try dsimp only); (try k_fold))
  k_with "x.c" => (intro h9 tk9 g9 T9 F9 N9 B9 X9 P9 D9; (try dsimp only); (try k_fold))
  k_with "eval Name" => ((k_here; (first | ((with_reducible show wpAny _ _ (eval (Expr.Name _ _) (compEnvC _ _ _ _)) _ _ _); k_dflt (first | (name_kind "local"; refine' LCgL.ld_own ?_ ?_ ?_ ?_ ?_ ?_ ?_ ?_; rotate_right 8; rotate_left 6; (focus (first | kernel_rfl! | rfl)); rotate_right 6; rotate_left 5; (focus (rfl)); rotate_right 5; rotate_left 5; (focus (decide)); rotate_right 5; (focus (k_asm)); (focus (k_mem)); (focus (assumption)); (focus (assumption))) | (name_kind "globalImplicit"; first | (refine' LCgL.ld_global ?_ ?_ ?_ ?_ ?_ ?_ ?_ ?_ ?_; rotate_right 9; rotate_left 7; (focus (first | kernel_rfl! | rfl)); rotate_right 7; (focus (k_asm)); (focus (k_asm)); (focus (k_asm)); (focus (k_is)); rotate_left 1; (focus (rfl)); rotate_right 1; rotate_left 1; (focus (rfl)); rotate_right 1; rotate_left 1; (focus (decide)); rotate_right 1) | (refine' LCgL.ld_built ?_ ?_ ?_ ?_ ?_ ?_ ?_ ?_ ?_ ?_ ?_ ?_; rotate_right 12; rotate_left 10; (focus (first | kernel_rfl! | rfl)); rotate_right 10; (focus (k_asm)); (focus (k_asm)); (focus (k_asm)); (focus (k_is)); (focus (boot_by_name)); (focus (decide)); rotate_left 1; (focus (rfl)); rotate_right 1; rotate_left 1; (focus (rfl)); rotate_right 1; rotate_left 1; (focus (rfl)); rotate_right 1; rotate_left 1; (focus (decide)); rotate_right 1))) ) | ((fail_if_success (with_reducible show wpAny _ _ (eval (Expr.Name _ _) (compEnvC _ _ _ _)) _ _ _)); k_dflt (first | (name_kind "local"; refine' nameX_L ?_ ?_ ?_ ?_ ?_; rotate_right 5; rotate_left 4; (focus (first | kernel_rfl! | rfl)); rotate_right 4; rotate_left 3; (focus (rfl)); rotate_right 3; (focus (k_asm)); (focus (rfl)); k_whole) | (name_kind "globalImplicit"; first | (refine' nameX_K ?_ ?_ ?_ ?_ ?_ ?_ ?_; rotate_right 7; rotate_left 6; (focus (first | kernel_rfl! | rfl)); rotate_right 6; (focus (k_asm)); (focus (k_asm)); (focus (k_asm)); rotate_left 2; (focus (rfl)); rotate_right 2; (focus (k_is)); k_whole) | (refine' nameX_B ?_ ?_ ?_ ?_ ?_ ?_ ?_ ?_ ?_; rotate_right 9; rotate_left 8; (focus (first | kernel_rfl! | rfl)); rotate_right 8; (focus (k_asm)); (focus (k_asm)); (focus (k_asm)); rotate_left 4; (focus (rfl)); rotate_right 4; (focus (k_is)); (focus (boot_fast)); (focus (decide)); k_whole)) | (name_kind "cell"; refine' nameX_C ?_ ?_ ?_ ?_ ?_ ?_ ?_; rotate_right 7; rotate_left 6; (focus (first | kernel_rfl! | rfl)); rotate_right 6; rotate_left 5; (focus (rfl)); rotate_right 5; (focus (k_asm)); (focus (rfl)); (focus (k_mem)); (focus (k_asm)); k_whole))))))
  k_with "fold" => ((fail_if_success (fail_if_success k_fold)); (refine (let qk := _; let ek := _; (?_ : wpAny _ _ _ qk ek _))))
  k_with "isTrue BoolOp" => (k_here; k_extra "fold")
  k_with "isTrue Compare" => (k_here; k_extra "fold")
  k_with "isTrue UnaryOp" => (k_here; k_extra "fold")
  k_with "eval Call" => (k_here; k_extra "fold")
  k_with "eval Compare" => (k_here; k_extra "fold")
  k_with "eval BinOp" => (k_here; k_extra "fold")
  k_with "eval Tuple" => (k_here; k_extra "fold")
  k_with "eval List" => (k_here; k_extra "fold")
  trivial
example : True := by
  k_with "call ref" => (walk_at "x.fault")
  trivial
example : True := by
  k_with "exec Raise some none" => ((k_here; k_dflt (refine' exec_raise_fault (K := laid.heap_1 w.params) (C := 70) ?_ ?_ ?_; rotate_right 3; (focus (kernel_rfl)); (focus (rfl)))))
  trivial
set_option maxHeartbeats 4000000 in
theorem sdig_len (y : Str) (t1 : Tok) (hy : y.length ≤ 100) (h36 : ([3, 6].any fun x => x == (y.length : Int)) = false) (news : List (Addr × Obj)) : RaiseOf w mean mg mb 207 [.str y t1] 4 news 70 := by
  dsimp only [RaiseOf]
  intro dp un gd cn cs a9 ccd cl outer A₀ base h₀ L m s Q E B F X N T hk hd9 hu9 XB TB hret
  suffices hz : (laid.heap_1 = laid.heap_1 → PySem.Challenge.rw_nu0021_01 = PySem.Challenge.rw_nu0021_01 → _) from hz rfl rfl
  k_fill
  intro _ _
  refine wpAny_call ?_
  k_dflt (refine' code_def ?k1 ?k2 ?k3 ?k4 ?k5 ?kA ?kF ?kK ?k6 ?k7 ?k8 ?k9 ?kB ?_ ?c2 ?c3 ?c4 ?c5; (case kA => exact rfl); (case kF => exact rfl); (case kK => assumption); (case k1 => k_asm); (case k2 => k_asm); (case k3 => k_asm); (case k4 => k_asm); (case k5 => k_asm); (case k6 => k_is); (case k7 => k_is); (case k8 => ktr_room); (case k9 => first | exact BindsTo.of_eq rfl | exact binds_K (by k_in) rfl (by k_is) rfl rfl rfl); (case c5 => decide); (case kB => exact locs rfl); (case c2 => exact rfl); (case c3 => exact rfl); (case c4 => exact rfl); k_whole; intro g' L' h' FG' F' N' B' X' T'; (try dsimp only); (try k_lift B'); (try k_fold))
  k_steps
  (refine' RaiseEnd.ofD ?k1 ?k2 ?k3 ?_; (case k1 => k_asm); (case k2 => k_asm); (case k3 => k_asm))
  k_steps
  (refine' leave_raiseE (news := news) ?k1 ?k2 ?k3 ?kn ?_; (case k1 => assumption); (case k2 => assumption); (case k3 => exact cb_drop (by assumption) (List.forall_mem_cons.mpr ⟨List.Mem.head _, List.forall_mem_cons.mpr ⟨List.Mem.tail _ (List.Mem.head _), fun p hp => by repeat (first | exact hp | refine List.mem_cons_of_mem _ ?_)⟩⟩)); (case kn => (refine' off2 ?zh9 ?zs9; (case zh9 => assumption); (case zs9 => exact fun p hp => by repeat (first | exact hp | refine List.mem_cons_of_mem _ ?_)))); intro h8 R8 U8; exact hret _ _ _ _ _ _ (by assumption) R8 U8)
example : True := by
  k_with "eval ListComp" => ((k_here; k_dflt (refine ListComp_M (by k_asm) (by with_unfolding_all rfl) (by decide) (by rfl) (by decide) (by rfl) ?_)))
  trivial
example : True := by
  k_with "MySrc" => ((refine stopHere ?_))
  trivial
set_option maxHeartbeats 4000000 in
theorem sdig_ggg (t1 : Tok) (news : List (Addr × Obj)) : RaiseOf w mean mg mb 207 [.str ⟨#[103, 103, 103]⟩ t1] 4 news 70 := by
  have hlen : (⟨#[103, 103, 103]⟩ : Str).length = 3 := rfl
  have h36 : ([3, 6].any fun x => x == ((⟨#[103, 103, 103]⟩ : Str).length : Int)) = true := rfl
  have hin : (!(Builtin.Str.occurrences (Str.ofString "0123456789abcdef") ⟨#[103]⟩ 0 (Str.ofString "0123456789abcdef").length 1).isEmpty) = false := by decide +kernel
  dsimp only [RaiseOf]
  intro dp un gd cn cs a9 ccd cl outer A₀ base h₀ L m s Q E B F X N T hk hd9 hu9 XB TB hret
  suffices hz : (laid.heap_1 = laid.heap_1 → PySem.Challenge.rw_nu0021_01 = PySem.Challenge.rw_nu0021_01 → _) from hz rfl rfl
  k_fill
  intro _ _
  refine wpAny_call ?_
  k_dflt (refine' code_def ?k1 ?k2 ?k3 ?k4 ?k5 ?kA ?kF ?kK ?k6 ?k7 ?k8 ?k9 ?kB ?_ ?c2 ?c3 ?c4 ?c5; (case kA => exact rfl); (case kF => exact rfl); (case kK => assumption); (case k1 => k_asm); (case k2 => k_asm); (case k3 => k_asm); (case k4 => k_asm); (case k5 => k_asm); (case k6 => k_is); (case k7 => k_is); (case k8 => ktr_room); (case k9 => first | exact BindsTo.of_eq rfl | exact binds_K (by k_in) rfl (by k_is) rfl rfl rfl); (case c5 => decide); (case kB => exact locs rfl); (case c2 => exact rfl); (case c3 => exact rfl); (case c4 => exact rfl); k_whole; intro g' L' h' FG' F' N' B' X' T'; (try dsimp only); (try k_lift B'); (try k_fold))
  k_steps
  · refine Wrap.mk ?_
    refine MySrc.text rfl (by assumption) (by assumption) (by rw [sizeLine_eq]; show (3 : Nat) ≤ _; decide) ?_
    intro g9
    refine rest_rel (fun _ y => y = .bool false) ?_ ?_ _ 0 [] (Nat.zero_add _) .nil
    · intro c u ys I oI C oC D m₂ h tk E' hc hC hx' F1 N1 off ap
      have hc3 : c = 103 := by
        simp only [List.mem_cons, List.not_mem_nil, or_false] at hc
        omega
      subst hc3
      k_steps
      refine TurnEnd.intro ?_ (by assumption) (by assumption)
      rw [hin]
    · intro ys hys
      have hys' : ys = [.bool false, .bool false, .bool false] := by
        cases hys with | cons e1 h1 => cases h1 with | cons e2 h2 => cases h2 with | cons e3 h3 => cases h3; rw [e1, e2, e3]
      subst hys'
      k_steps
      (refine' RaiseEnd.ofD ?k1 ?k2 ?k3 ?_; (case k1 => k_asm); (case k2 => k_asm); (case k3 => k_asm))
      k_steps
      (refine' leave_raiseE (news := news) ?k1 ?k2 ?k3 ?kn ?_; (case k1 => assumption); (case k2 => assumption); (case k3 => exact cb_drop (by assumption) (List.forall_mem_cons.mpr ⟨List.Mem.head _, List.forall_mem_cons.mpr ⟨List.Mem.tail _ (List.Mem.head _), fun p hp => by repeat (first | exact hp | refine List.mem_cons_of_mem _ ?_)⟩⟩)); (case kn => (refine' off2 ?zh9 ?zs9; (case zh9 => assumption); (case zs9 => exact fun p hp => by repeat (first | exact hp | refine List.mem_cons_of_mem _ ?_)))); intro h8 R8 U8; exact hret _ _ _ _ _ _ (by assumption) R8 U8)
end

section
example : True := by
  k_with_none
  k_with "k_all" => (first | assumption | (intro p9 hp9; (repeat' (first | (with_reducible rename (∀ p : Addr × Obj, p ∈ (_ : List (Addr × Obj)) → @LT.lt Nat _ p.1 _) => hq9; first | replace hq9 := ltN (hq9 p9 hp9) | clear hq9) | (with_reducible rename AllLt _ _ => hq9; first | replace hq9 := ltN (ktn_ltOf hq9 p9 hp9) | clear hq9) | (with_reducible rename (_ ∧ AllLt _ _) => hq9; obtain ⟨hz9, hq9⟩ := hq9))); (refine neN ?_); omega))
  k_with "k_ne" => ((refine neN ?_; (try dsimp only); first | with_reducible assumption | exact Ne.symm (by with_reducible assumption) | exact ne_above (by with_reducible assumption) (by k_mem) | exact Ne.symm (ne_above (by with_reducible assumption) (by k_mem)) | exact ne_above1 (by with_reducible assumption) (by k_mem) | exact Ne.symm (ne_above1 (by with_reducible assumption) (by k_mem))))
  k_with "room" => (first | exact room_at (by with_reducible assumption) rfl rfl | exact room_at0 (by with_reducible assumption) rfl | exact room_at1 (by with_reducible assumption) rfl rfl)
  k_with "units" => (exact units_at (by with_reducible assumption) rfl rfl)
  k_with "x.p" => (refine' Prem.mk ?_ ?_ ?_ ?_ ?_ ?_ ?_ ?_; rotate_right 8; (focus k_asm); (focus k_asm); (focus k_asm); (focus (k_asm)); (focus k_asm); (focus (first | exact rfl | assumption)); (focus ktr_room); (focus ktr_units))
  k_with "x.pn" => (refine' Prem.mk ?_ ?_ ?_ ?_ ?_ ?_ ?_ ?_; rotate_right 8; (focus k_asm); (focus k_asm); (focus k_asm); (focus (first | k_asm | exact news_rot1 (by k_asm) | exact news_rot2 (by k_asm))); (focus k_asm); (focus (first | exact rfl | assumption)); (focus ktr_room); (focus ktr_units))
  k_with "x.pr" => (refine' Prem.mk ?_ ?_ ?_ ?_ ?_ ?_ ?_ ?_; rotate_right 8; (focus k_asm); (focus k_asm); (focus k_asm); (focus (first | k_asm | exact rot1 (by k_asm) | exact rot2 (by k_asm) | exact rot3 (by k_asm))); (focus k_asm); (focus (first | exact rfl | assumption)); (focus ktr_room); (focus ktr_units))
  k_with "x.t" => (intro t9 h9 tk9 F9 N9; (try dsimp only); (try k_fold))
  k_with "x.2" => (intro x9 t91 t92 h9 tk9 F9 N9 l9; (try k_lt l9); (try dsimp only); (try k_fold))
  k_with "x.3" => (intro x9 t91 t92 t93 h9 tk9 F9 N9 l9; (try k_lt l9); (try dsimp only); (try k_fold))
  k_with "x.4" => (intro x9 t91 t92 t93 t94 h9 tk9 F9 N9 l9; (try k_lt l9); (try dsimp only); (try k_fold))
  k_with "x.tt" => (intro t9 t91 h9 tk9 F9 N9; (try dsimp only); (try k_fold))
  k_with "x.take" => (intro d9 a9 b9 t9 t91 t92 n9 h9 tk9 hd0 hd1 ha9 hb9 hb99 F9 N9; (have hb9' := And.intro hb9 hb99); (try dsimp only); (try k_fold))
  k_with "x.r" => (intro e9 t9 ws9 h9 tk9 G9 FG9 R9 U9; (try dsimp only); (try k_fold))
  k_with "x.c" => (intro h9 tk9 g9 T9 F9 N9 B9 X9 P9 D9; (try dsimp only); (try k_fold))
  k_with "eval Name" => ((k_here; (first | ((with_reducible show wpAny _ _ (eval (Expr.Name _ _) (compEnvC _ _ _ _)) _ _ _); k_dflt (first | (name_kind "local"; refine' LCgL.ld_own ?_ ?_ ?_ ?_ ?_ ?_ ?_ ?_; rotate_right 8; rotate_left 6; (focus (first | kernel_rfl! | rfl)); rotate_right 6; rotate_left 5; (focus (rfl)); rotate_right 5; rotate_left 5; (focus (decide)); rotate_right 5; (focus (k_asm)); (focus (k_mem)); (focus (assumption)); (focus (assumption))) | (name_kind "globalImplicit"; first | (refine' LCgL.ld_global ?_ ?_ ?_ ?_ ?_ ?_ ?_ ?_ ?_; rotate_right 9; rotate_left 7; (focus (first | kernel_rfl! | rfl)); rotate_right 7; (focus (k_asm)); (focus (k_asm)); (focus (k_asm)); (focus (k_is)); rotate_left 1; (focus (rfl)); rotate_right 1; rotate_left 1; (focus (rfl)); rotate_right 1; rotate_left 1; (focus (decide)); rotate_right 1) | (refine' LCgL.ld_built ?_ ?_ ?_ ?_ ?_ ?_ ?_ ?_ ?_ ?_ ?_ ?_; rotate_right 12; rotate_left 10; (focus (first | kernel_rfl! | rfl)); rotate_right 10; (focus (k_asm)); (focus (k_asm)); (focus (k_asm)); (focus (k_is)); (focus (boot_by_name)); (focus (decide)); rotate_left 1; (focus (rfl)); rotate_right 1; rotate_left 1; (focus (rfl)); rotate_right 1; rotate_left 1; (focus (rfl)); rotate_right 1; rotate_left 1; (focus (decide)); rotate_right 1))) ) | ((fail_if_success (with_reducible show wpAny _ _ (eval (Expr.Name _ _) (compEnvC _ _ _ _)) _ _ _)); k_dflt (first | (name_kind "local"; refine' nameX_L ?_ ?_ ?_ ?_ ?_; rotate_right 5; rotate_left 4; (focus (first | kernel_rfl! | rfl)); rotate_right 4; rotate_left 3; (focus (rfl)); rotate_right 3; (focus (k_asm)); (focus (rfl)); k_whole) | (name_kind "globalImplicit"; first | (refine' nameX_K ?_ ?_ ?_ ?_ ?_ ?_ ?_; rotate_right 7; rotate_left 6; (focus (first | kernel_rfl! | rfl)); rotate_right 6; (focus (k_asm)); (focus (k_asm)); (focus (k_asm)); rotate_left 2; (focus (rfl)); rotate_right 2; (focus (k_is)); k_whole) | (refine' nameX_B ?_ ?_ ?_ ?_ ?_ ?_ ?_ ?_ ?_; rotate_right 9; rotate_left 8; (focus (first | kernel_rfl! | rfl)); rotate_right 8; (focus (k_asm)); (focus (k_asm)); (focus (k_asm)); rotate_left 4; (focus (rfl)); rotate_right 4; (focus (k_is)); (focus (boot_fast)); (focus (decide)); k_whole)) | (name_kind "cell"; refine' nameX_C ?_ ?_ ?_ ?_ ?_ ?_ ?_; rotate_right 7; rotate_left 6; (focus (first | kernel_rfl! | rfl)); rotate_right 6; rotate_left 5; (focus (rfl)); rotate_right 5; (focus (k_asm)); (focus (rfl)); (focus (k_mem)); (focus (k_asm)); k_whole))))))
  k_with "fold" => ((fail_if_success (fail_if_success k_fold)); (refine (let qk := _; let ek := _; (?_ : wpAny _ _ _ qk ek _))))
  k_with "isTrue BoolOp" => (k_here; k_extra "fold")
  k_with "isTrue Compare" => (k_here; k_extra "fold")
  k_with "isTrue UnaryOp" => (k_here; k_extra "fold")
  k_with "eval Call" => (k_here; k_extra "fold")
  k_with "eval Compare" => (k_here; k_extra "fold")
  k_with "eval BinOp" => (k_here; k_extra "fold")
  k_with "eval Tuple" => (k_here; k_extra "fold")
  k_with "eval List" => (k_here; k_extra "fold")
  trivial
example : True := by
  k_with "call ref" => ((k_here; k_dflt (first | (refine' call_cls ?_ ?_ ?_ ?_ ?_ ?_ ?_; rotate_right 7; (focus (k_asm)); (focus (k_asm)); (focus (k_asm)); (focus (k_is)); (focus (k_is)); (focus (k_is)); k_whole; intro x' d' h' F' N' l1 l2; (try k_lt l1); (try k_lt2 l2); (try k_sweep); refine' code_def ?_ ?_ ?_ ?_ ?_ ?_ ?_ ?_ ?_ ?_ ?_ ?_ ?_ ?_ ?_ ?_ ?_ ?_; rotate_right 18; rotate_left 5; (focus (exact rfl)); rotate_right 5; rotate_left 5; (focus (exact rfl)); rotate_right 5; rotate_left 5; (focus (first | exact rfl | assumption)); rotate_right 5; (focus (k_asm)); (focus (k_asm)); (focus (k_asm)); (focus (k_asm)); (focus (k_asm)); (focus (k_is)); (focus (k_is)); (focus (ktr_room)); (focus (first | exact BindsTo.of_eq rfl | exact binds_K (by k_in) rfl (by k_is) rfl rfl rfl)); rotate_left 5; (focus (decide)); rotate_right 5; (focus (exact locs rfl)); rotate_left 1; (focus (exact rfl)); rotate_right 1; rotate_left 1; (focus (exact rfl)); rotate_right 1; rotate_left 1; (focus (exact rfl)); rotate_right 1; k_whole; intro g' L' h' FG' F' N' B' X' T'; (try dsimp only); (try k_lift B'); (try k_fold)) | (refine' call_meth ?_ ?_ ?_; rotate_right 3; (focus (k_asm)); (focus (k_mem)); k_whole; refine' code_def ?_ ?_ ?_ ?_ ?_ ?_ ?_ ?_ ?_ ?_ ?_ ?_ ?_ ?_ ?_ ?_ ?_ ?_; rotate_right 18; rotate_left 5; (focus (exact rfl)); rotate_right 5; rotate_left 5; (focus (exact rfl)); rotate_right 5; rotate_left 5; (focus (first | exact rfl | assumption)); rotate_right 5; (focus (k_asm)); (focus (k_asm)); (focus (k_asm)); (focus (k_asm)); (focus (k_asm)); (focus (k_is)); (focus (k_is)); (focus (ktr_room)); (focus (first | exact BindsTo.of_eq rfl | exact binds_K (by k_in) rfl (by k_is) rfl rfl rfl)); rotate_left 5; (focus (decide)); rotate_right 5; (focus (exact locs rfl)); rotate_left 1; (focus (exact rfl)); rotate_right 1; rotate_left 1; (focus (exact rfl)); rotate_right 1; rotate_left 1; (focus (exact rfl)); rotate_right 1; k_whole; intro g' L' h' FG' F' N' B' X' T'; (try dsimp only); (try k_lift B'); (try k_fold)) | (refine wpAny_call ?_; refine' code_def ?_ ?_ ?_ ?_ ?_ ?_ ?_ ?_ ?_ ?_ ?_ ?_ ?_ ?_ ?_ ?_ ?_ ?_; rotate_right 18; rotate_left 5; (focus (exact rfl)); rotate_right 5; rotate_left 5; (focus (exact rfl)); rotate_right 5; rotate_left 5; (focus (first | exact rfl | assumption)); rotate_right 5; (focus (k_asm)); (focus (k_asm)); (focus (k_asm)); (focus (k_asm)); (focus (k_asm)); (focus (k_is)); (focus (k_is)); (focus (ktr_room)); (focus (first | exact BindsTo.of_eq rfl | exact binds_K (by k_in) rfl (by k_is) rfl rfl rfl)); rotate_left 5; (focus (decide)); rotate_right 5; (focus (exact locs rfl)); rotate_left 1; (focus (exact rfl)); rotate_right 1; rotate_left 1; (focus (exact rfl)); rotate_right 1; rotate_left 1; (focus (exact rfl)); rotate_right 1; k_whole; intro g' L' h' FG' F' N' B' X' T'; (try dsimp only); (try k_lift B'); (try k_fold)))))
  trivial
example : True := by
  k_with "call ref" => (walk_at "x.fault")
  trivial
example : True := by
  k_with "exec Raise some none" => ((k_here; k_dflt (refine' exec_raise_fault (K := laid.heap_1 w.params) (C := 58) ?_ ?_ ?_; rotate_right 3; (focus (kernel_rfl)); (focus (rfl)))))
  trivial
example : True := by
  k_with "call ref" => ((k_here; k_dflt (refine' callBy (skip_no _ _ _ _ _ _ _ _ ?_ ?_ ?_ ?_ _ _ _ ?_ ?_) ?_ ?_; rotate_right 2; (focus (walk_at "x.pn")); (all_goals skip); rotate_right 6; (focus (omega)); (focus (decide +kernel)); (focus (omega)); (focus (k_asm)); (focus (k_ne)); (focus (k_all)); walk_at "x.tt")))
  trivial
example : True := by
  k_with "call ref" => ((k_here; k_dflt (refine' callBy (digits_is _ _ _ _ _ _ ?_ ?_ _ _ _ ?_ ?_) ?_ ?_; rotate_right 2; (focus (walk_at "x.pn")); (all_goals skip); rotate_right 4; (focus (omega)); (focus (omega)); (focus (k_ne)); (focus (k_all)); walk_at "x.tt")))
  trivial
example : True := by
  k_with "call ref" => ((k_here; k_dflt (refine' callBy (readexp_is _ _ _ _ _ _ ?_ ?_ ?_ _ _ _ ?_ ?_) ?_ ?_; rotate_right 2; (focus (walk_at "x.pn")); (all_goals skip); rotate_right 5; (focus (omega)); (focus (omega)); (focus (k_asm)); (focus (k_ne)); (focus (k_all)); walk_at "x.tt")))
  trivial
example : True := by
  k_with "call ref" => ((k_here; k_dflt (refine' callBy (whole_is _ _ ?_ ?_ _) ?_ ?_; rotate_right 2; (focus (walk_at "x.p")); (all_goals skip); rotate_right 2; (focus (k_asm)); (focus (k_asm)); walk_at "x.t")))
  trivial
set_option maxHeartbeats 4000000 in
theorem readdecx_is (x : Str) (t1 : Tok) (hx : x.length ≤ 12) (hs : oneOf x 0 (Str.ofString "+-") = false) (hdot : oneOf x (digEnd x 0) (Str.ofString ".") = false) (hd0 : 0 ≤ digEnd x 0 ∧ digEnd x 0 ≤ 999)
    (hls : (Txt.slice x (some 0) (some (digEnd x 0))).length ≤ 12) (hl : (Txt.slice x (some 0) (some (digEnd x 0)) ++ Str.ofString "").length ≤ 12) (hne : ((Txt.slice x (some 0) (some (digEnd x 0)) ++ Str.ofString "") == Str.ofString "") = true) (news : List (Addr × Obj)) :
    Raise2Of w mean mg mb 171 [.str x t1] 6 news 58 := by
  dsimp only [Raise2Of]
  intro dp un gd cn cs a9 ccd cl outer A₀ base h₀ L m s Q E B F X N T hk hd9 hu9 XB TB hret
  suffices hz : (laid.heap_1 = laid.heap_1 → PySem.Challenge.rw_nu0021_01 = PySem.Challenge.rw_nu0021_01 → _) from hz rfl rfl
  k_fill
  intro _ _
  refine wpAny_call ?_
  k_dflt (refine' code_def ?k1 ?k2 ?k3 ?k4 ?k5 ?kA ?kF ?kK ?k6 ?k7 ?k8 ?k9 ?kB ?_ ?c2 ?c3 ?c4 ?c5; (case kA => exact rfl); (case kF => exact rfl); (case kK => assumption); (case k1 => k_asm); (case k2 => k_asm); (case k3 => k_asm); (case k4 => k_asm); (case k5 => k_asm); (case k6 => k_is); (case k7 => k_is); (case k8 => ktr_room); (case k9 => first | exact BindsTo.of_eq rfl | exact binds_K (by k_in) rfl (by k_is) rfl rfl rfl); (case c5 => decide); (case kB => exact locs rfl); (case c2 => exact rfl); (case c3 => exact rfl); (case c4 => exact rfl); k_whole; intro g' L' h' FG' F' N' B' X' T'; (try dsimp only); (try k_lift B'); (try k_fold))
  k_steps
  (refine' RaiseEnd.ofD ?k1 ?k2 ?k3 ?_; (case k1 => k_asm); (case k2 => k_asm); (case k3 => k_asm))
  k_steps
  (refine' leave_raise2 (news := news) ?k1 ?k2 ?k3 ?kn ?_; (case k1 => assumption); (case k2 => assumption); (case k3 => exact cb_drop (by assumption) (List.forall_mem_cons.mpr ⟨List.Mem.head _, List.forall_mem_cons.mpr ⟨List.Mem.tail _ (List.Mem.head _), fun p hp => by repeat (first | exact hp | refine List.mem_cons_of_mem _ ?_)⟩⟩)); (case kn => (refine' off2 ?zh9 ?zs9; (case zh9 => assumption); (case zs9 => exact fun p hp => by repeat (first | exact hp | refine List.mem_cons_of_mem _ ?_)))); intro h8 R8 U8; exact hret _ _ _ _ _ _ (by assumption) R8 U8)
end

section
example : True := by
  k_with_none
  k_with "k_all" => (first | assumption | (intro p9 hp9; (repeat' (first | (with_reducible rename (∀ p : Addr × Obj, p ∈ (_ : List (Addr × Obj)) → @LT.lt Nat _ p.1 _) => hq9; first | replace hq9 := ltN (hq9 p9 hp9) | clear hq9) | (with_reducible rename AllLt _ _ => hq9; first | replace hq9 := ltN (ktn_ltOf hq9 p9 hp9) | clear hq9) | (with_reducible rename (_ ∧ AllLt _ _) => hq9; obtain ⟨hz9, hq9⟩ := hq9))); (refine neN ?_); omega))
  k_with "k_ne" => ((refine neN ?_; (try dsimp only); first | with_reducible assumption | exact Ne.symm (by with_reducible assumption) | exact ne_above (by with_reducible assumption) (by k_mem) | exact Ne.symm (ne_above (by with_reducible assumption) (by k_mem)) | exact ne_above1 (by with_reducible assumption) (by k_mem) | exact Ne.symm (ne_above1 (by with_reducible assumption) (by k_mem))))
  k_with "room" => (first | exact room_at (by with_reducible assumption) rfl rfl | exact room_at0 (by with_reducible assumption) rfl | exact room_at1 (by with_reducible assumption) rfl rfl)
  k_with "units" => (exact units_at (by with_reducible assumption) rfl rfl)
  k_with "x.p" => (refine' Prem.mk ?_ ?_ ?_ ?_ ?_ ?_ ?_ ?_; rotate_right 8; (focus k_asm); (focus k_asm); (focus k_asm); (focus (k_asm)); (focus k_asm); (focus (first | exact rfl | assumption)); (focus ktr_room); (focus ktr_units))
  k_with "x.pn" => (refine' Prem.mk ?_ ?_ ?_ ?_ ?_ ?_ ?_ ?_; rotate_right 8; (focus k_asm); (focus k_asm); (focus k_asm); (focus (first | k_asm | exact news_rot1 (by k_asm) | exact news_rot2 (by k_asm))); (focus k_asm); (focus (first | exact rfl | assumption)); (focus ktr_room); (focus ktr_units))
  k_with "x.pr" => (refine' Prem.mk ?_ ?_ ?_ ?_ ?_ ?_ ?_ ?_; rotate_right 8; (focus k_asm); (focus k_asm); (focus k_asm); (focus (first | k_asm | exact rot1 (by k_asm) | exact rot2 (by k_asm) | exact rot3 (by k_asm))); (focus k_asm); (focus (first | exact rfl | assumption)); (focus ktr_room); (focus ktr_units))
  k_with "x.t" => (intro t9 h9 tk9 F9 N9; (try dsimp only); (try k_fold))
  k_with "x.2" => (intro x9 t91 t92 h9 tk9 F9 N9 l9; (try k_lt l9); (try dsimp only); (try k_fold))
  k_with "x.3" => (intro x9 t91 t92 t93 h9 tk9 F9 N9 l9; (try k_lt l9); (try dsimp only); (try k_fold))
  k_with "x.4" => (intro x9 t91 t92 t93 t94 h9 tk9 F9 N9 l9; (try k_lt l9); (try dsimp only); (try k_fold))
  k_with "x.tt" => (intro t9 t91 h9 tk9 F9 N9; (try dsimp only); (try k_fold))
  k_with "x.take" => (intro d9 a9 b9 t9 t91 t92 n9 h9 tk9 hd0 hd1 ha9 hb9 hb99 F9 N9; (have hb9' := And.intro hb9 hb99); (try dsimp only); (try k_fold))
  k_with "x.r" => (intro e9 t9 ws9 h9 tk9 G9 FG9 R9 U9; (try dsimp only); (try k_fold))
  k_with "x.c" => (intro h9 tk9 g9 T9 F9 N9 B9 X9 P9 D9; (try dsimp only); (try k_fold))
  k_with "eval Name" => ((k_here; (first | ((with_reducible show wpAny _ _ (eval (Expr.Name _ _) (compEnvC _ _ _ _)) _ _ _); k_dflt (first | (name_kind "local"; refine' LCgL.ld_own ?_ ?_ ?_ ?_ ?_ ?_ ?_ ?_; rotate_right 8; rotate_left 6; (focus (first | kernel_rfl! | rfl)); rotate_right 6; rotate_left 5; (focus (rfl)); rotate_right 5; rotate_left 5; (focus (decide)); rotate_right 5; (focus (k_asm)); (focus (k_mem)); (focus (assumption)); (focus (assumption))) | (name_kind "globalImplicit"; first | (refine' LCgL.ld_global ?_ ?_ ?_ ?_ ?_ ?_ ?_ ?_ ?_; rotate_right 9; rotate_left 7; (focus (first | kernel_rfl! | rfl)); rotate_right 7; (focus (k_asm)); (focus (k_asm)); (focus (k_asm)); (focus (k_is)); rotate_left 1; (focus (rfl)); rotate_right 1; rotate_left 1; (focus (rfl)); rotate_right 1; rotate_left 1; (focus (decide)); rotate_right 1) | (refine' LCgL.ld_built ?_ ?_ ?_ ?_ ?_ ?_ ?_ ?_ ?_ ?_ ?_ ?_; rotate_right 12; rotate_left 10; (focus (first | kernel_rfl! | rfl)); rotate_right 10; (focus (k_asm)); (focus (k_asm)); (focus (k_asm)); (focus (k_is)); (focus (boot_by_name)); (focus (decide)); rotate_left 1; (focus (rfl)); rotate_right 1; rotate_left 1; (focus (rfl)); rotate_right 1; rotate_left 1; (focus (rfl)); rotate_right 1; rotate_left 1; (focus (decide)); rotate_right 1))) ) | ((fail_if_success (with_reducible show wpAny _ _ (eval (Expr.Name _ _) (compEnvC _ _ _ _)) _ _ _)); k_dflt (first | (name_kind "local"; refine' nameX_L ?_ ?_ ?_ ?_ ?_; rotate_right 5; rotate_left 4; (focus (first | kernel_rfl! | rfl)); rotate_right 4; rotate_left 3; (focus (rfl)); rotate_right 3; (focus (k_asm)); (focus (rfl)); k_whole) | (name_kind "globalImplicit"; first | (refine' nameX_K ?_ ?_ ?_ ?_ ?_ ?_ ?_; rotate_right 7; rotate_left 6; (focus (first | kernel_rfl! | rfl)); rotate_right 6; (focus (k_asm)); (focus (k_asm)); (focus (k_asm)); rotate_left 2; (focus (rfl)); rotate_right 2; (focus (k_is)); k_whole) | (refine' nameX_B ?_ ?_ ?_ ?_ ?_ ?_ ?_ ?_ ?_; rotate_right 9; rotate_left 8; (focus (first | kernel_rfl! | rfl)); rotate_right 8; (focus (k_asm)); (focus (k_asm)); (focus (k_asm)); rotate_left 4; (focus (rfl)); rotate_right 4; (focus (k_is)); (focus (boot_fast)); (focus (decide)); k_whole)) | (name_kind "cell"; refine' nameX_C ?_ ?_ ?_ ?_ ?_ ?_ ?_; rotate_right 7; rotate_left 6; (focus (first | kernel_rfl! | rfl)); rotate_right 6; rotate_left 5; (focus (rfl)); rotate_right 5; (focus (k_asm)); (focus (rfl)); (focus (k_mem)); (focus (k_asm)); k_whole))))))
  k_with "fold" => ((fail_if_success (fail_if_success k_fold)); (refine (let qk := _; let ek := _; (?_ : wpAny _ _ _ qk ek _))))
  k_with "isTrue BoolOp" => (k_here; k_extra "fold")
  k_with "isTrue Compare" => (k_here; k_extra "fold")
  k_with "isTrue UnaryOp" => (k_here; k_extra "fold")
  k_with "eval Call" => (k_here; k_extra "fold")
  k_with "eval Compare" => (k_here; k_extra "fold")
  k_with "eval BinOp" => (k_here; k_extra "fold")
  k_with "eval Tuple" => (k_here; k_extra "fold")
  k_with "eval List" => (k_here; k_extra "fold")
  trivial
/-- read_decimal raises at this text -/
def ReadsBad (w : World) (mean : ExcName → Option Value) (mg mb : Str → Option Value) (x : Str) : Prop :=
  ∀ (t1 : Tok) (news : List (Addr × Obj)), Raise2Of w mean mg mb 171 [.str x t1] 6 news 58
theorem readsbad_at {x : Str} (h : ReadsBad w mean mg mb x) (t1 : Tok) (news : List (Addr × Obj)) : Raise2Of w mean mg mb 171 [.str x t1] 6 news 58 := h t1 news
example : True := by
  k_with "call ref" => (walk_at "x.fault")
  trivial
example : True := by
  k_with "exec Raise some none" => ((k_here; k_dflt (refine' exec_raise_fault (K := laid.heap_1 w.params) (C := 70) ?_ ?_ ?_; rotate_right 3; (focus (kernel_rfl)); (focus (rfl)))))
  trivial
example : True := by
  k_with "call ref" => ((k_here; k_dflt (refine' callByR2 (readsbad_at ?_ _ _) ?_ ?_ ?_ ?_; rotate_right 4; (focus (walk_at "x.p")); (focus assumption); (focus assumption); (all_goals skip); rotate_right 1; (focus (k_asm)); walk_at "x.r")))
  trivial
example : True := by
  k_with "noteFrame ref" => ((k_here; k_dflt (refine' caught2 ?_ ?_ ?_ ?_ ?_ ?_ ?_ ?_ ?_; rotate_right 9; (focus (assumption)); (focus (assumption)); (focus (assumption)); (focus (assumption)); (focus (assumption)); (focus (assumption)); rotate_left 1; (focus (kts_isx)); rotate_right 1; (focus (k_is)); k_whole); intro h' g' oe' ws' T' F' N' c1' c2' c3' K' X' P'; (try k_lift K'); (try k_sweep)))
  trivial
example : True := by
  k_with "exec Raise some some" => ((k_here; k_dflt (refine' exec_raise_from (K := laid.heap_1 w.params) (C := 70) ?_ ?_ ?_; rotate_right 3; (focus (kernel_rfl)); (focus (rfl)))))
  trivial
set_option maxHeartbeats 4000000 in
theorem part_bad (x : Str) (t1 : Tok) (hr : ReadsBad w mean mg mb x) (hx : x.length ≤ 100) (hp : (Txt.slice x (some (-1)) none == Str.ofString "%") = false) (news : List (Addr × Obj)) : RaiseOf w mean mg mb 214 [.str x t1] 9 news 70 := by
  dsimp only [RaiseOf]
  intro dp un gd cn cs a9 ccd cl outer A₀ base h₀ L m s Q E B F X N T hk hd9 hu9 XB TB hret
  suffices hz : (laid.heap_1 = laid.heap_1 → PySem.Challenge.rw_nu0021_01 = PySem.Challenge.rw_nu0021_01 → _) from hz rfl rfl
  k_fill
  intro _ _
  refine wpAny_call ?_
  k_dflt (refine' code_def ?k1 ?k2 ?k3 ?k4 ?k5 ?kA ?kF ?kK ?k6 ?k7 ?k8 ?k9 ?kB ?_ ?c2 ?c3 ?c4 ?c5; (case kA => exact rfl); (case kF => exact rfl); (case kK => assumption); (case k1 => k_asm); (case k2 => k_asm); (case k3 => k_asm); (case k4 => k_asm); (case k5 => k_asm); (case k6 => k_is); (case k7 => k_is); (case k8 => ktr_room); (case k9 => first | exact BindsTo.of_eq rfl | exact binds_K (by k_in) rfl (by k_is) rfl rfl rfl); (case c5 => decide); (case kB => exact locs rfl); (case c2 => exact rfl); (case c3 => exact rfl); (case c4 => exact rfl); k_whole; intro g' L' h' FG' F' N' B' X' T'; (try dsimp only); (try k_lift B'); (try k_fold))
  k_steps
  refine' RaiseFrom.ofD ?r1 ?r2 ?r3 ?r4 ?r5 ?r6 ?_
  case r1 => k_asm
  case r2 => k_asm
  case r3 => assumption
  case r4 => assumption
  case r5 => assumption
  case r6 => assumption
  intro h7 F7 N7 ne7
  k_steps
  refine' leave_from (news := news) ?l1 ?l2 ?l3 ?l4 ?l5 ?_
  case l1 => assumption
  case l2 => assumption
  case l3 => exact F7
  case l4 => exact N7
  case l5 => exact ne7
  intro h8 R8 U8
  exact hret _ _ _ _ _ _ (by assumption) R8 U8
end

section
example : True := by
  k_with_none
  k_with "k_all" => (first | assumption | (intro p9 hp9; (repeat' (first | (with_reducible rename (∀ p : Addr × Obj, p ∈ (_ : List (Addr × Obj)) → @LT.lt Nat _ p.1 _) => hq9; first | replace hq9 := ltN (hq9 p9 hp9) | clear hq9) | (with_reducible rename AllLt _ _ => hq9; first | replace hq9 := ltN (ktn_ltOf hq9 p9 hp9) | clear hq9) | (with_reducible rename (_ ∧ AllLt _ _) => hq9; obtain ⟨hz9, hq9⟩ := hq9))); (refine neN ?_); omega))
  k_with "k_ne" => ((refine neN ?_; (try dsimp only); first | with_reducible assumption | exact Ne.symm (by with_reducible assumption) | exact ne_above (by with_reducible assumption) (by k_mem) | exact Ne.symm (ne_above (by with_reducible assumption) (by k_mem)) | exact ne_above1 (by with_reducible assumption) (by k_mem) | exact Ne.symm (ne_above1 (by with_reducible assumption) (by k_mem))))
  k_with "room" => (first | exact room_at (by with_reducible assumption) rfl rfl | exact room_at0 (by with_reducible assumption) rfl | exact room_at1 (by with_reducible assumption) rfl rfl)
  k_with "units" => (exact units_at (by with_reducible assumption) rfl rfl)
  k_with "x.p" => (refine' Prem.mk ?_ ?_ ?_ ?_ ?_ ?_ ?_ ?_; rotate_right 8; (focus k_asm); (focus k_asm); (focus k_asm); (focus (k_asm)); (focus k_asm); (focus (first | exact rfl | assumption)); (focus ktr_room); (focus ktr_units))
  k_with "x.pn" => (refine' Prem.mk ?_ ?_ ?_ ?_ ?_ ?_ ?_ ?_; rotate_right 8; (focus k_asm); (focus k_asm); (focus k_asm); (focus (first | k_asm | exact news_rot1 (by k_asm) | exact news_rot2 (by k_asm))); (focus k_asm); (focus (first | exact rfl | assumption)); (focus ktr_room); (focus ktr_units))
  k_with "x.pr" => (refine' Prem.mk ?_ ?_ ?_ ?_ ?_ ?_ ?_ ?_; rotate_right 8; (focus k_asm); (focus k_asm); (focus k_asm); (focus (first | k_asm | exact rot1 (by k_asm) | exact rot2 (by k_asm) | exact rot3 (by k_asm))); (focus k_asm); (focus (first | exact rfl | assumption)); (focus ktr_room); (focus ktr_units))
  k_with "x.t" => (intro t9 h9 tk9 F9 N9; (try dsimp only); (try k_fold))
  k_with "x.2" => (intro x9 t91 t92 h9 tk9 F9 N9 l9; (try k_lt l9); (try dsimp only); (try k_fold))
  k_with "x.3" => (intro x9 t91 t92 t93 h9 tk9 F9 N9 l9; (try k_lt l9); (try dsimp only); (try k_fold))
  k_with "x.4" => (intro x9 t91 t92 t93 t94 h9 tk9 F9 N9 l9; (try k_lt l9); (try dsimp only); (try k_fold))
  k_with "x.tt" => (intro t9 t91 h9 tk9 F9 N9; (try dsimp only); (try k_fold))
  k_with "x.take" => (intro d9 a9 b9 t9 t91 t92 n9 h9 tk9 hd0 hd1 ha9 hb9 hb99 F9 N9; (have hb9' := And.intro hb9 hb99); (try dsimp only); (try k_fold))
  k_with "x.r" => (intro e9 t9 ws9 h9 tk9 G9 FG9 R9 U9; (try dsimp only); (try k_fold))
  k_with "x.c" => (intro h9 tk9 g9 T9 F9 N9 B9 X9 P9 D9; (try dsimp only); (try k_fold))
  k_with "eval Name" => ((k_here; (first | ((with_reducible show wpAny _ _ (eval (Expr.Name _ _) (compEnvC _ _ _ _)) _ _ _); k_dflt (first | (name_kind "local"; refine' LCgL.ld_own ?_ ?_ ?_ ?_ ?_ ?_ ?_ ?_; rotate_right 8; rotate_left 6; (focus (first | kernel_rfl! | rfl)); rotate_right 6; rotate_left 5; (focus (rfl)); rotate_right 5; rotate_left 5; (focus (decide)); rotate_right 5; (focus (k_asm)); (focus (k_mem)); (focus (assumption)); (focus (assumption))) | (name_kind "globalImplicit"; first | (refine' LCgL.ld_global ?_ ?_ ?_ ?_ ?_ ?_ ?_ ?_ ?_; rotate_right 9; rotate_left 7; (focus (first | kernel_rfl! | rfl)); rotate_right 7; (focus (k_asm)); (focus (k_asm)); (focus (k_asm)); (focus (k_is)); rotate_left 1; (focus (rfl)); rotate_right 1; rotate_left 1; (focus (rfl)); rotate_right 1; rotate_left 1; (focus (decide)); rotate_right 1) | (refine' LCgL.ld_built ?_ ?_ ?_ ?_ ?_ ?_ ?_ ?_ ?_ ?_ ?_ ?_; rotate_right 12; rotate_left 10; (focus (first | kernel_rfl! | rfl)); rotate_right 10; (focus (k_asm)); (focus (k_asm)); (focus (k_asm)); (focus (k_is)); (focus (boot_by_name)); (focus (decide)); rotate_left 1; (focus (rfl)); rotate_right 1; rotate_left 1; (focus (rfl)); rotate_right 1; rotate_left 1; (focus (rfl)); rotate_right 1; rotate_left 1; (focus (decide)); rotate_right 1))) ) | ((fail_if_success (with_reducible show wpAny _ _ (eval (Expr.Name _ _) (compEnvC _ _ _ _)) _ _ _)); k_dflt (first | (name_kind "local"; refine' nameX_L ?_ ?_ ?_ ?_ ?_; rotate_right 5; rotate_left 4; (focus (first | kernel_rfl! | rfl)); rotate_right 4; rotate_left 3; (focus (rfl)); rotate_right 3; (focus (k_asm)); (focus (rfl)); k_whole) | (name_kind "globalImplicit"; first | (refine' nameX_K ?_ ?_ ?_ ?_ ?_ ?_ ?_; rotate_right 7; rotate_left 6; (focus (first | kernel_rfl! | rfl)); rotate_right 6; (focus (k_asm)); (focus (k_asm)); (focus (k_asm)); rotate_left 2; (focus (rfl)); rotate_right 2; (focus (k_is)); k_whole) | (refine' nameX_B ?_ ?_ ?_ ?_ ?_ ?_ ?_ ?_ ?_; rotate_right 9; rotate_left 8; (focus (first | kernel_rfl! | rfl)); rotate_right 8; (focus (k_asm)); (focus (k_asm)); (focus (k_asm)); rotate_left 4; (focus (rfl)); rotate_right 4; (focus (k_is)); (focus (boot_fast)); (focus (decide)); k_whole)) | (name_kind "cell"; refine' nameX_C ?_ ?_ ?_ ?_ ?_ ?_ ?_; rotate_right 7; rotate_left 6; (focus (first | kernel_rfl! | rfl)); rotate_right 6; rotate_left 5; (focus (rfl)); rotate_right 5; (focus (k_asm)); (focus (rfl)); (focus (k_mem)); (focus (k_asm)); k_whole))))))
  k_with "fold" => ((fail_if_success (fail_if_success k_fold)); (refine (let qk := _; let ek := _; (?_ : wpAny _ _ _ qk ek _))))
  k_with "isTrue BoolOp" => (k_here; k_extra "fold")
  k_with "isTrue Compare" => (k_here; k_extra "fold")
  k_with "isTrue UnaryOp" => (k_here; k_extra "fold")
  k_with "eval Call" => (k_here; k_extra "fold")
  k_with "eval Compare" => (k_here; k_extra "fold")
  k_with "eval BinOp" => (k_here; k_extra "fold")
  k_with "eval Tuple" => (k_here; k_extra "fold")
  k_with "eval List" => (k_here; k_extra "fold")
  trivial
/-- part_of raises at this text -/
def PartBad (w : World) (mean : ExcName → Option Value) (mg mb : Str → Option Value) (x : Str) : Prop :=
  ∀ (t1 : Tok) (news : List (Addr × Obj)), RaiseOf w mean mg mb 214 [.str x t1] 9 news 70
theorem partbad_at {x : Str} (h : PartBad w mean mg mb x) (t1 : Tok) (news : List (Addr × Obj)) : RaiseOf w mean mg mb 214 [.str x t1] 9 news 70 := h t1 news
theorem strip2 {ys : List Value} {ws : List Str} {x q1 q2 : Str} (h : CarriedAll ys (List.map (fun a' => PyData.str (Txt.strip a')) (List.filter (fun _ => true) ws))) (e : ws = Txt.split x (Str.ofString ",")) (H : Txt.split x (Str.ofString ",") = [q1, q2]) :
    ∃ ta tb, ys = [.str (Txt.strip q1) ta, .str (Txt.strip q2) tb] := by
  rw [H] at e
  subst e
  obtain ⟨ta, v1, rfl, h1⟩ := carriedAll_str_inv h
  obtain ⟨tb, v2, rfl, h2⟩ := carriedAll_str_inv h1
  cases h2
  exact ⟨ta, tb, rfl⟩
structure MFacts (p1 p2 p3 : Str) : Prop where
  l1 : p1.length ≤ 100
  l2 : p2.length ≤ 100
  l3 : p3.length ≤ 100
  n1 : (Txt.slice p1 (some (-1)) none == Str.ofString "%") = false
  n2 : (Txt.slice p2 (some (-1)) none == Str.ofString "%") = true
  n3 : (Txt.slice p3 (some (-1)) none == Str.ofString "%") = false
example : True := by
  k_with "call ref" => (walk_at "x.fault")
  trivial
example : True := by
  k_with "exec Raise some none" => ((k_here; k_dflt (refine' exec_raise_fault (K := laid.heap_1 w.params) (C := 70) ?_ ?_ ?_; rotate_right 3; (focus (kernel_rfl)); (focus (rfl)))))
  trivial
example : True := by
  k_with "call ref" => ((k_here; k_dflt (refine' callByR (partbad_at ?_ _ _) ?_ ?_ ?_ ?_; rotate_right 4; (focus (walk_at "x.p")); (focus assumption); (focus assumption); (all_goals skip); rotate_right 1; (focus (k_asm)); walk_at "x.r")))
  trivial
example : True := by
  k_with "CompRestT" => ((with_unfolding_all first | (refine LCt.CompRestT.succ ?_; intro v' I' oI' C' oC' D' m' h' tk' E' hv' hC' hx' F' N' off' ne'; (first | lcg_open hv' | (obtain ⟨t9', hv9'⟩ := hv'; subst hv9')); replace ne' := apart3 ne') | refine LCt.CompRestT.zero ?_))
  trivial
example : True := by
  k_with "CompRest" => ((with_unfolding_all first | (refine LCg.CompRest.succ ?_; intro v' I' oI' C' oC' D' m' h' tk' E' hv' hC' hx' F' N' off' ne'; (first | lcg_open hv' | (obtain ⟨t9', hv9'⟩ := hv'; subst hv9')); replace ne' := apart3 ne') | refine LCg.CompRest.zero ?_))
  trivial
example : True := by
  k_with "CompEnd" => ((first | refine LCg.CompEnd.intro (by assumption) (by assumption) _ (fun p hp => hp) (by assumption) (by lcg_src) ?_ | refine LCg.CompEnd.intro (by assumption) (by assumption) _ (fun p hp => List.mem_cons_of_mem _ hp) (by assumption) (by lcg_src) ?_ | refine LCg.CompEnd.intro (by assumption) (by assumption) _ (fun p hp => List.mem_cons_of_mem _ (List.mem_cons_of_mem _ hp)) (by assumption) (by lcg_src) ?_))
  trivial
example : True := by
  k_with "FinE" => (((unfold LCg.FinE); intro D' h' tk' F' N' o1'; (try simp only [List.nil_append, List.cons_append] at N'); (try dsimp only)))
  trivial
example : True := by
  k_with "k_ne" => ((refine neN ?_; first | assumption | exact Ne.symm (by assumption) | exact Apart3.ic (by assumption) | exact Apart3.id (by assumption) | exact Apart3.cd (by assumption) | exact off3_i (by assumption) (by k_mem) | exact off3_c (by assumption) (by k_mem) | exact off3_d (by assumption) (by k_mem) | exact off1_d (by assumption) (by k_mem) | exact Ne.symm (off3_i (by assumption) (by k_mem)) | exact Ne.symm (off3_c (by assumption) (by k_mem)) | exact Ne.symm (off3_d (by assumption) (by k_mem)) | exact Ne.symm (off1_d (by assumption) (by k_mem))))
  trivial
example : True := by
  k_with "eval ListComp" => ((k_here; lcg_look; k_dflt (refine LCg.ListComp_U (F₀ := by k_asm) (by with_unfolding_all rfl) (by decide) (by rfl) (by decide) (by rfl) ?_); k_dflt lcg_toSrc))
  trivial
set_option maxHeartbeats 4000000 in
theorem parts_two (x q1 q2 : Str) (t1 : Tok) (hx : x.length ≤ 100) (H : Txt.split x (Str.ofString ",") = [q1, q2]) (news : List (Addr × Obj)) : RaiseOf w mean mg mb 219 [.str x t1] 12 news 70 := by
  dsimp only [RaiseOf]
  intro dp un gd cn cs a9 ccd cl outer A₀ base h₀ L m s Q E B F X N T hk hd9 hu9 XB TB hret
  suffices hz : (laid.heap_1 = laid.heap_1 → PySem.Challenge.rw_nu0021_01 = PySem.Challenge.rw_nu0021_01 → _) from hz rfl rfl
  k_fill
  intro _ _
  refine wpAny_call ?_
  k_dflt (refine' code_def ?k1 ?k2 ?k3 ?k4 ?k5 ?kA ?kF ?kK ?k6 ?k7 ?k8 ?k9 ?kB ?_ ?c2 ?c3 ?c4 ?c5; (case kA => exact rfl); (case kF => exact rfl); (case kK => assumption); (case k1 => k_asm); (case k2 => k_asm); (case k3 => k_asm); (case k4 => k_asm); (case k5 => k_asm); (case k6 => k_is); (case k7 => k_is); (case k8 => ktr_room); (case k9 => first | exact BindsTo.of_eq rfl | exact binds_K (by k_in) rfl (by k_is) rfl rfl rfl); (case c5 => decide); (case kB => exact locs rfl); (case c2 => exact rfl); (case c3 => exact rfl); (case c4 => exact rfl); k_whole; intro g' L' h' FG' F' N' B' X' T'; (try dsimp only); (try k_lift B'); (try k_fold))
  k_steps
  with_reducible rename _ = Txt.split _ _ => hsp
  with_reducible rename CarriedAll _ _ => hc
  obtain ⟨ta, tb, rfl⟩ := strip2 hc hsp H
  clear hc H hsp
  k_steps
  (refine' RaiseEnd.ofD ?k1 ?k2 ?k3 ?_; (case k1 => k_asm); (case k2 => k_asm); (case k3 => k_asm))
  k_steps
  (refine' leave_raiseE (news := news) ?k1 ?k2 ?k3 ?kn ?_; (case k1 => assumption); (case k2 => assumption); (case k3 => exact cb_drop (by assumption) (List.forall_mem_cons.mpr ⟨List.Mem.head _, List.forall_mem_cons.mpr ⟨List.Mem.tail _ (List.Mem.head _), fun p hp => by repeat (first | exact hp | refine List.mem_cons_of_mem _ ?_)⟩⟩)); (case kn => (refine' off2 ?zh9 ?zs9; (case zh9 => assumption); (case zs9 => exact fun p hp => by repeat (first | exact hp | refine List.mem_cons_of_mem _ ?_)))); intro h8 R8 U8; exact hret _ _ _ _ _ _ (by assumption) R8 U8)
set_option maxHeartbeats 4000000 in
theorem parts_mixed (x q1 q2 q3 p1 p2 p3 : Str) (t1 : Tok) (hx : x.length ≤ 100) (H : PSplit x q1 q2 q3 p1 p2 p3) (P : MFacts p1 p2 p3) (news : List (Addr × Obj)) : RaiseOf w mean mg mb 219 [.str x t1] 12 news 70 := by
  dsimp only [RaiseOf]
  intro dp un gd cn cs a9 ccd cl outer A₀ base h₀ L m s Q E B F X N T hk hd9 hu9 XB TB hret
  suffices hz : (laid.heap_1 = laid.heap_1 → PySem.Challenge.rw_nu0021_01 = PySem.Challenge.rw_nu0021_01 → _) from hz rfl rfl
  k_fill
  intro _ _
  refine wpAny_call ?_
  k_dflt (refine' code_def ?k1 ?k2 ?k3 ?k4 ?k5 ?kA ?kF ?kK ?k6 ?k7 ?k8 ?k9 ?kB ?_ ?c2 ?c3 ?c4 ?c5; (case kA => exact rfl); (case kF => exact rfl); (case kK => assumption); (case k1 => k_asm); (case k2 => k_asm); (case k3 => k_asm); (case k4 => k_asm); (case k5 => k_asm); (case k6 => k_is); (case k7 => k_is); (case k8 => ktr_room); (case k9 => first | exact BindsTo.of_eq rfl | exact binds_K (by k_in) rfl (by k_is) rfl rfl rfl); (case c5 => decide); (case kB => exact locs rfl); (case c2 => exact rfl); (case c3 => exact rfl); (case c4 => exact rfl); k_whole; intro g' L' h' FG' F' N' B' X' T'; (try dsimp only); (try k_lift B'); (try k_fold))
  k_steps
  with_reducible rename _ = Txt.split _ _ => hsp
  with_reducible rename CarriedAll _ _ => hc
  obtain ⟨ta, tb, tc, rfl⟩ := strip3P hc hsp H
  clear hc H hsp
  obtain ⟨l1, l2, l3, n1, n2, n3⟩ := P
  k_steps
  (refine' RaiseEnd.ofD ?k1 ?k2 ?k3 ?_; (case k1 => k_asm); (case k2 => k_asm); (case k3 => k_asm))
  k_steps
  (refine' leave_raiseE (news := news) ?k1 ?k2 ?k3 ?kn ?_; (case k1 => assumption); (case k2 => assumption); (case k3 => exact cb_drop (by assumption) (List.forall_mem_cons.mpr ⟨List.Mem.head _, List.forall_mem_cons.mpr ⟨List.Mem.tail _ (List.Mem.head _), fun p hp => by repeat (first | exact hp | refine List.mem_cons_of_mem _ ?_)⟩⟩)); (case kn => (refine' off2 ?zh9 ?zs9; (case zh9 => assumption); (case zs9 => exact fun p hp => by repeat (first | exact hp | refine List.mem_cons_of_mem _ ?_)))); intro h8 R8 U8; exact hret _ _ _ _ _ _ (by assumption) R8 U8)
example : True := by
  k_with "eval ListComp" => (((with_reducible show wpAny _ _ (eval (Expr.ListComp (Expr.Call (Expr.Name (Str.ofString "part_of") _) _ _ _) _ _ _) _) _ _ _); refine stopHere ?_))
  trivial
example : True := by
  k_with "SrcX" => ((refine stopHere ?_))
  trivial
set_option maxHeartbeats 4000000 in
theorem parts_bad (x q1 q2 q3 p1 p2 p3 : Str) (t1 : Tok) (hx : x.length ≤ 100) (H : PSplit x q1 q2 q3 p1 p2 p3) (P : PFacts false p1 p2 p3) (r1 : PartBad w mean mg mb p1) (news : List (Addr × Obj)) : RaiseOf w mean mg mb 219 [.str x t1] 12 news 70 := by
  dsimp only [RaiseOf]
  intro dp un gd cn cs a9 ccd cl outer A₀ base h₀ L m s Q E B F X N T hk hd9 hu9 XB TB hret
  suffices hz : (laid.heap_1 = laid.heap_1 → PySem.Challenge.rw_nu0021_01 = PySem.Challenge.rw_nu0021_01 → _) from hz rfl rfl
  k_fill
  intro _ _
  refine wpAny_call ?_
  k_dflt (refine' code_def ?k1 ?k2 ?k3 ?k4 ?k5 ?kA ?kF ?kK ?k6 ?k7 ?k8 ?k9 ?kB ?_ ?c2 ?c3 ?c4 ?c5; (case kA => exact rfl); (case kF => exact rfl); (case kK => assumption); (case k1 => k_asm); (case k2 => k_asm); (case k3 => k_asm); (case k4 => k_asm); (case k5 => k_asm); (case k6 => k_is); (case k7 => k_is); (case k8 => ktr_room); (case k9 => first | exact BindsTo.of_eq rfl | exact binds_K (by k_in) rfl (by k_is) rfl rfl rfl); (case c5 => decide); (case kB => exact locs rfl); (case c2 => exact rfl); (case c3 => exact rfl); (case c4 => exact rfl); k_whole; intro g' L' h' FG' F' N' B' X' T'; (try dsimp only); (try k_lift B'); (try k_fold))
  k_steps
  with_reducible rename _ = Txt.split _ _ => hsp
  with_reducible rename CarriedAll _ _ => hc
  obtain ⟨ta, tb, tc, rfl⟩ := strip3P hc hsp H
  clear hc H hsp
  obtain ⟨l1, l2, l3, n1, n2, n3⟩ := P
  k_steps
  refine Wrap.mk ?_
  k_dflt (refine ListComp_XE (base := base) (outer := envX cn cs L a9 ccd cl :: outer) (by k_asm) (by with_unfolding_all rfl) (by decide) (by rfl) (by decide) (by rfl) ?_)
  k_steps
  refine Wrap.mk ?_
  refine SrcX.intro rfl (by assumption) (by assumption) (by k_mem) rfl ?_
  intro I oI C oC D' m₂ h5 tk5 hoC hxC F5 N5 off5 ap5
  k_steps
  have hC5 := N5 _ (List.Mem.tail _ (List.Mem.head _))
  have hn5 : ∀ p ∈ news, p.1 ≠ C := fun p hp => (off5.mem p (by repeat (first | exact hp | refine List.mem_cons_of_mem _ ?_))).2.1
  refine' ThrowX.intro (news := news) ?t1 ?t2 ?t3 rfl rfl rfl ?t4 ?t5 hC5.2.2 hC5.2.1 ?t6 hn5 ?t7
  case t1 => assumption
  case t2 => assumption
  case t3 => assumption
  case t4 =>
    intro b hb
    obtain ⟨_, o, ho, _⟩ := Heap.FunFrames.mem (Below.frames B') hb
    exact ⟨o, ho⟩
  case t5 => exact List.Mem.tail _ (List.Mem.head _)
  case t6 => exact fun p hp => by repeat (first | exact hp | refine List.mem_cons_of_mem _ ?_)
  case t7 =>
    intro h6 R6 U6
    k_steps
    refine' leave_flew ?l1 ?l2 R6 U6 ?_
    case l1 => assumption
    case l2 => assumption
    intro h8 R8 U8
    exact hret _ _ _ _ _ _ (by assumption) R8 U8
end

section
example : True := by
  k_with_none
  k_with "k_all" => (first | assumption | (intro p9 hp9; (repeat' (first | (with_reducible rename (∀ p : Addr × Obj, p ∈ (_ : List (Addr × Obj)) → @LT.lt Nat _ p.1 _) => hq9; first | replace hq9 := ltN (hq9 p9 hp9) | clear hq9) | (with_reducible rename AllLt _ _ => hq9; first | replace hq9 := ltN (ktn_ltOf hq9 p9 hp9) | clear hq9) | (with_reducible rename (_ ∧ AllLt _ _) => hq9; obtain ⟨hz9, hq9⟩ := hq9))); (refine neN ?_); omega))
  k_with "k_ne" => ((refine neN ?_; (try dsimp only); first | with_reducible assumption | exact Ne.symm (by with_reducible assumption) | exact ne_above (by with_reducible assumption) (by k_mem) | exact Ne.symm (ne_above (by with_reducible assumption) (by k_mem)) | exact ne_above1 (by with_reducible assumption) (by k_mem) | exact Ne.symm (ne_above1 (by with_reducible assumption) (by k_mem))))
  k_with "room" => (first | exact room_at (by with_reducible assumption) rfl rfl | exact room_at0 (by with_reducible assumption) rfl | exact room_at1 (by with_reducible assumption) rfl rfl)
  k_with "units" => (exact units_at (by with_reducible assumption) rfl rfl)
  k_with "x.p" => (refine' Prem.mk ?_ ?_ ?_ ?_ ?_ ?_ ?_ ?_; rotate_right 8; (focus k_asm); (focus k_asm); (focus k_asm); (focus (k_asm)); (focus k_asm); (focus (first | exact rfl | assumption)); (focus ktr_room); (focus ktr_units))
  k_with "x.pn" => (refine' Prem.mk ?_ ?_ ?_ ?_ ?_ ?_ ?_ ?_; rotate_right 8; (focus k_asm); (focus k_asm); (focus k_asm); (focus (first | k_asm | exact news_rot1 (by k_asm) | exact news_rot2 (by k_asm))); (focus k_asm); (focus (first | exact rfl | assumption)); (focus ktr_room); (focus ktr_units))
  k_with "x.pr" => (refine' Prem.mk ?_ ?_ ?_ ?_ ?_ ?_ ?_ ?_; rotate_right 8; (focus k_asm); (focus k_asm); (focus k_asm); (focus (first | k_asm | exact rot1 (by k_asm) | exact rot2 (by k_asm) | exact rot3 (by k_asm))); (focus k_asm); (focus (first | exact rfl | assumption)); (focus ktr_room); (focus ktr_units))
  k_with "x.t" => (intro t9 h9 tk9 F9 N9; (try dsimp only); (try k_fold))
  k_with "x.2" => (intro x9 t91 t92 h9 tk9 F9 N9 l9; (try k_lt l9); (try dsimp only); (try k_fold))
  k_with "x.3" => (intro x9 t91 t92 t93 h9 tk9 F9 N9 l9; (try k_lt l9); (try dsimp only); (try k_fold))
  k_with "x.4" => (intro x9 t91 t92 t93 t94 h9 tk9 F9 N9 l9; (try k_lt l9); (try dsimp only); (try k_fold))
  k_with "x.tt" => (intro t9 t91 h9 tk9 F9 N9; (try dsimp only); (try k_fold))
  k_with "x.take" => (intro d9 a9 b9 t9 t91 t92 n9 h9 tk9 hd0 hd1 ha9 hb9 hb99 F9 N9; (have hb9' := And.intro hb9 hb99); (try dsimp only); (try k_fold))
  k_with "x.r" => (intro e9 t9 ws9 h9 tk9 G9 FG9 R9 U9; (try dsimp only); (try k_fold))
  k_with "x.c" => (intro h9 tk9 g9 T9 F9 N9 B9 X9 P9 D9; (try dsimp only); (try k_fold))
  k_with "eval Name" => ((k_here; (first | ((with_reducible show wpAny _ _ (eval (Expr.Name _ _) (compEnvC _ _ _ _)) _ _ _); k_dflt (first | (name_kind "local"; refine' LCgL.ld_own ?_ ?_ ?_ ?_ ?_ ?_ ?_ ?_; rotate_right 8; rotate_left 6; (focus (first | kernel_rfl! | rfl)); rotate_right 6; rotate_left 5; (focus (rfl)); rotate_right 5; rotate_left 5; (focus (decide)); rotate_right 5; (focus (k_asm)); (focus (k_mem)); (focus (assumption)); (focus (assumption))) | (name_kind "globalImplicit"; first | (refine' LCgL.ld_global ?_ ?_ ?_ ?_ ?_ ?_ ?_ ?_ ?_; rotate_right 9; rotate_left 7; (focus (first | kernel_rfl! | rfl)); rotate_right 7; (focus (k_asm)); (focus (k_asm)); (focus (k_asm)); (focus (k_is)); rotate_left 1; (focus (rfl)); rotate_right 1; rotate_left 1; (focus (rfl)); rotate_right 1; rotate_left 1; (focus (decide)); rotate_right 1) | (refine' LCgL.ld_built ?_ ?_ ?_ ?_ ?_ ?_ ?_ ?_ ?_ ?_ ?_ ?_; rotate_right 12; rotate_left 10; (focus (first | kernel_rfl! | rfl)); rotate_right 10; (focus (k_asm)); (focus (k_asm)); (focus (k_asm)); (focus (k_is)); (focus (boot_by_name)); (focus (decide)); rotate_left 1; (focus (rfl)); rotate_right 1; rotate_left 1; (focus (rfl)); rotate_right 1; rotate_left 1; (focus (rfl)); rotate_right 1; rotate_left 1; (focus (decide)); rotate_right 1))) ) | ((fail_if_success (with_reducible show wpAny _ _ (eval (Expr.Name _ _) (compEnvC _ _ _ _)) _ _ _)); k_dflt (first | (name_kind "local"; refine' nameX_L ?_ ?_ ?_ ?_ ?_; rotate_right 5; rotate_left 4; (focus (first | kernel_rfl! | rfl)); rotate_right 4; rotate_left 3; (focus (rfl)); rotate_right 3; (focus (k_asm)); (focus (rfl)); k_whole) | (name_kind "globalImplicit"; first | (refine' nameX_K ?_ ?_ ?_ ?_ ?_ ?_ ?_; rotate_right 7; rotate_left 6; (focus (first | kernel_rfl! | rfl)); rotate_right 6; (focus (k_asm)); (focus (k_asm)); (focus (k_asm)); rotate_left 2; (focus (rfl)); rotate_right 2; (focus (k_is)); k_whole) | (refine' nameX_B ?_ ?_ ?_ ?_ ?_ ?_ ?_ ?_ ?_; rotate_right 9; rotate_left 8; (focus (first | kernel_rfl! | rfl)); rotate_right 8; (focus (k_asm)); (focus (k_asm)); (focus (k_asm)); rotate_left 4; (focus (rfl)); rotate_right 4; (focus (k_is)); (focus (boot_fast)); (focus (decide)); k_whole)) | (name_kind "cell"; refine' nameX_C ?_ ?_ ?_ ?_ ?_ ?_ ?_; rotate_right 7; rotate_left 6; (focus (first | kernel_rfl! | rfl)); rotate_right 6; rotate_left 5; (focus (rfl)); rotate_right 5; (focus (k_asm)); (focus (rfl)); (focus (k_mem)); (focus (k_asm)); k_whole))))))
  k_with "fold" => ((fail_if_success (fail_if_success k_fold)); (refine (let qk := _; let ek := _; (?_ : wpAny _ _ _ qk ek _))))
  k_with "isTrue BoolOp" => (k_here; k_extra "fold")
  k_with "isTrue Compare" => (k_here; k_extra "fold")
  k_with "isTrue UnaryOp" => (k_here; k_extra "fold")
  k_with "eval Call" => (k_here; k_extra "fold")
  k_with "eval Compare" => (k_here; k_extra "fold")
  k_with "eval BinOp" => (k_here; k_extra "fold")
  k_with "eval Tuple" => (k_here; k_extra "fold")
  k_with "eval List" => (k_here; k_extra "fold")
  trivial
/-- no such name in the long text -/
structure NoName (T : Str) : Prop where
  len : longText.length ≤ 4000
  cnt : (Txt.split longText (Str.ofString " ")).length = 294
  eq : lookW T (Txt.split longText (Str.ofString " ")) = none
theorem value_no {T : Str} (h : NoName T) (t1 : Tok) (news : List (Addr × Obj)) : CallOf w mean mg mb 28 [.str T t1] 4 news (fun h₀ L m s Q => CbRet h₀ L m news s Q fun _ => .none) :=
  call_cb (value_is T t1 h.len h.cnt news) (lookV_none h.eq)
def DigBad (w : World) (mean : ExcName → Option Value) (mg mb : Str → Option Value) (y : Str) : Prop :=
  ∀ (t1 : Tok) (news : List (Addr × Obj)), RaiseOf w mean mg mb 207 [.str y t1] 4 news 70
theorem digbad_at {y : Str} (h : DigBad w mean mg mb y) (t1 : Tok) (news : List (Addr × Obj)) : RaiseOf w mean mg mb 207 [.str y t1] 4 news 70 := h t1 news
def PartsBad (w : World) (mean : ExcName → Option Value) (mg mb : Str → Option Value) (y : Str) : Prop :=
  ∀ (t1 : Tok) (news : List (Addr × Obj)), RaiseOf w mean mg mb 219 [.str y t1] 12 news 70
theorem partsbad_at {y : Str} (h : PartsBad w mean mg mb y) (t1 : Tok) (news : List (Addr × Obj)) : RaiseOf w mean mg mb 219 [.str y t1] 12 news 70 := h t1 news
example : True := by
  k_with "call ref" => (walk_at "x.fault")
  trivial
example : True := by
  k_with "exec Raise some none" => ((k_here; k_dflt (refine' exec_raise_fault (K := laid.heap_1 w.params) (C := 70) ?_ ?_ ?_; rotate_right 3; (focus (kernel_rfl)); (focus (rfl)))))
  trivial
example : True := by
  k_with "call ref" => ((k_here; k_dflt (refine' callBy (lowered_at ?_ _ _) ?_ ?_; rotate_right 2; (focus (walk_at "x.p")); (all_goals skip); rotate_right 1; (focus (k_asm)); walk_at "x.t")))
  trivial
example : True := by
  k_with "call ref" => ((k_here; k_dflt (refine' callByR (digbad_at ?_ _ _) ?_ ?_ ?_ ?_; rotate_right 4; (focus (walk_at "x.p")); (focus assumption); (focus assumption); (all_goals skip); rotate_right 1; (focus (k_asm)); walk_at "x.r")))
  trivial
example : True := by
  k_with "call ref" => ((k_here; k_dflt (refine' callByR (partsbad_at ?_ _ _) ?_ ?_ ?_ ?_; rotate_right 4; (focus (walk_at "x.p")); (focus assumption); (focus assumption); (all_goals skip); rotate_right 1; (focus (k_asm)); walk_at "x.r")))
  trivial
example : True := by
  k_with "call ref" => ((k_here; k_dflt (refine' callBy (value_no ?_ _ _) ?_ ?_; rotate_right 2; (focus (walk_at "x.p")); (all_goals skip); rotate_right 1; (focus (k_asm)); walk_at "x.t")))
  trivial
set_option maxHeartbeats 4000000 in
theorem readx_name (x T : Str) (t1 : Tok) (hx : x.length ≤ 100) (hl : LowTo (Txt.strip x) T) (hT : T.length ≤ 100) (n0 : (T == Str.ofString "none") = false) (n1 : (Txt.slice T none (some 1) == Str.ofString "#") = false)
    (n2 : (Txt.slice T none (some 4) == Str.ofString "rgb(") = false) (hn : NoName T) (news : List (Addr × Obj)) : RaiseOf w mean mg mb 226 [.str x t1] 13 news 70 := by
  dsimp only [RaiseOf]
  intro dp un gd cn cs a9 ccd cl outer A₀ base h₀ L m s Q E B F X N T hk hd9 hu9 XB TB hret
  suffices hz : (laid.heap_1 = laid.heap_1 → PySem.Challenge.rw_nu0021_01 = PySem.Challenge.rw_nu0021_01 → _) from hz rfl rfl
  k_fill
  intro _ _
  refine wpAny_call ?_
  k_dflt (refine' code_def ?k1 ?k2 ?k3 ?k4 ?k5 ?kA ?kF ?kK ?k6 ?k7 ?k8 ?k9 ?kB ?_ ?c2 ?c3 ?c4 ?c5; (case kA => exact rfl); (case kF => exact rfl); (case kK => assumption); (case k1 => k_asm); (case k2 => k_asm); (case k3 => k_asm); (case k4 => k_asm); (case k5 => k_asm); (case k6 => k_is); (case k7 => k_is); (case k8 => ktr_room); (case k9 => first | exact BindsTo.of_eq rfl | exact binds_K (by k_in) rfl (by k_is) rfl rfl rfl); (case c5 => decide); (case kB => exact locs rfl); (case c2 => exact rfl); (case c3 => exact rfl); (case c4 => exact rfl); k_whole; intro g' L' h' FG' F' N' B' X' T'; (try dsimp only); (try k_lift B'); (try k_fold))
  k_steps
  (refine' RaiseEnd.ofD ?k1 ?k2 ?k3 ?_; (case k1 => k_asm); (case k2 => k_asm); (case k3 => k_asm))
  k_steps
  (refine' leave_raiseE (news := news) ?k1 ?k2 ?k3 ?kn ?_; (case k1 => assumption); (case k2 => assumption); (case k3 => exact cb_drop (by assumption) (List.forall_mem_cons.mpr ⟨List.Mem.head _, List.forall_mem_cons.mpr ⟨List.Mem.tail _ (List.Mem.head _), fun p hp => by repeat (first | exact hp | refine List.mem_cons_of_mem _ ?_)⟩⟩)); (case kn => (refine' off2 ?zh9 ?zs9; (case zh9 => assumption); (case zs9 => exact fun p hp => by repeat (first | exact hp | refine List.mem_cons_of_mem _ ?_)))); intro h8 R8 U8; exact hret _ _ _ _ _ _ (by assumption) R8 U8)
set_option maxHeartbeats 4000000 in
theorem readx_open (x T : Str) (t1 : Tok) (hx : x.length ≤ 100) (hl : LowTo (Txt.strip x) T) (hT : T.length ≤ 100) (n0 : (T == Str.ofString "none") = false) (n1 : (Txt.slice T none (some 1) == Str.ofString "#") = false)
    (n2 : (Txt.slice T none (some 4) == Str.ofString "rgb(") = true) (n3 : (Txt.slice T (some (-1)) none == Str.ofString ")") = false) (hn : NoName T) (news : List (Addr × Obj)) : RaiseOf w mean mg mb 226 [.str x t1] 13 news 70 := by
  dsimp only [RaiseOf]
  intro dp un gd cn cs a9 ccd cl outer A₀ base h₀ L m s Q E B F X N T hk hd9 hu9 XB TB hret
  suffices hz : (laid.heap_1 = laid.heap_1 → PySem.Challenge.rw_nu0021_01 = PySem.Challenge.rw_nu0021_01 → _) from hz rfl rfl
  k_fill
  intro _ _
  refine wpAny_call ?_
  k_dflt (refine' code_def ?k1 ?k2 ?k3 ?k4 ?k5 ?kA ?kF ?kK ?k6 ?k7 ?k8 ?k9 ?kB ?_ ?c2 ?c3 ?c4 ?c5; (case kA => exact rfl); (case kF => exact rfl); (case kK => assumption); (case k1 => k_asm); (case k2 => k_asm); (case k3 => k_asm); (case k4 => k_asm); (case k5 => k_asm); (case k6 => k_is); (case k7 => k_is); (case k8 => ktr_room); (case k9 => first | exact BindsTo.of_eq rfl | exact binds_K (by k_in) rfl (by k_is) rfl rfl rfl); (case c5 => decide); (case kB => exact locs rfl); (case c2 => exact rfl); (case c3 => exact rfl); (case c4 => exact rfl); k_whole; intro g' L' h' FG' F' N' B' X' T'; (try dsimp only); (try k_lift B'); (try k_fold))
  k_steps
  (refine' RaiseEnd.ofD ?k1 ?k2 ?k3 ?_; (case k1 => k_asm); (case k2 => k_asm); (case k3 => k_asm))
  k_steps
  (refine' leave_raiseE (news := news) ?k1 ?k2 ?k3 ?kn ?_; (case k1 => assumption); (case k2 => assumption); (case k3 => exact cb_drop (by assumption) (List.forall_mem_cons.mpr ⟨List.Mem.head _, List.forall_mem_cons.mpr ⟨List.Mem.tail _ (List.Mem.head _), fun p hp => by repeat (first | exact hp | refine List.mem_cons_of_mem _ ?_)⟩⟩)); (case kn => (refine' off2 ?zh9 ?zs9; (case zh9 => assumption); (case zs9 => exact fun p hp => by repeat (first | exact hp | refine List.mem_cons_of_mem _ ?_)))); intro h8 R8 U8; exact hret _ _ _ _ _ _ (by assumption) R8 U8)
set_option maxHeartbeats 4000000 in
theorem readx_hash (x T : Str) (t1 : Tok) (hx : x.length ≤ 100) (hl : LowTo (Txt.strip x) T) (hT : T.length ≤ 100) (n0 : (T == Str.ofString "none") = false) (n1 : (Txt.slice T none (some 1) == Str.ofString "#") = true)
    (hd : DigBad w mean mg mb (Txt.slice T (some 1) none)) (news : List (Addr × Obj)) : RaiseOf w mean mg mb 226 [.str x t1] 13 news 70 := by
  dsimp only [RaiseOf]
  intro dp un gd cn cs a9 ccd cl outer A₀ base h₀ L m s Q E B F X N T hk hd9 hu9 XB TB hret
  suffices hz : (laid.heap_1 = laid.heap_1 → PySem.Challenge.rw_nu0021_01 = PySem.Challenge.rw_nu0021_01 → _) from hz rfl rfl
  k_fill
  intro _ _
  refine wpAny_call ?_
  k_dflt (refine' code_def ?k1 ?k2 ?k3 ?k4 ?k5 ?kA ?kF ?kK ?k6 ?k7 ?k8 ?k9 ?kB ?_ ?c2 ?c3 ?c4 ?c5; (case kA => exact rfl); (case kF => exact rfl); (case kK => assumption); (case k1 => k_asm); (case k2 => k_asm); (case k3 => k_asm); (case k4 => k_asm); (case k5 => k_asm); (case k6 => k_is); (case k7 => k_is); (case k8 => ktr_room); (case k9 => first | exact BindsTo.of_eq rfl | exact binds_K (by k_in) rfl (by k_is) rfl rfl rfl); (case c5 => decide); (case kB => exact locs rfl); (case c2 => exact rfl); (case c3 => exact rfl); (case c4 => exact rfl); k_whole; intro g' L' h' FG' F' N' B' X' T'; (try dsimp only); (try k_lift B'); (try k_fold))
  k_steps
  (refine' leave_onS (news := news) ?k1 ?k2 (raised_sub (by assumption) ?ks) ?k4 ?_; (case k1 => assumption); (case k2 => assumption); (case k4 => assumption); (case ks => exact fun p hp => by repeat (first | exact hp | refine List.mem_cons_of_mem _ ?_)); intro h8 R8 RK8 U8; exact hret _ _ _ _ _ _ (by assumption) R8 U8)
set_option maxHeartbeats 4000000 in
theorem readx_rgb (x T : Str) (t1 : Tok) (hx : x.length ≤ 100) (hl : LowTo (Txt.strip x) T) (hT : T.length ≤ 100) (n0 : (T == Str.ofString "none") = false) (n1 : (Txt.slice T none (some 1) == Str.ofString "#") = false)
    (n2 : (Txt.slice T none (some 4) == Str.ofString "rgb(") = true) (n3 : (Txt.slice T (some (-1)) none == Str.ofString ")") = true)
    (hd : PartsBad w mean mg mb (Txt.slice T (some 4) (some (-1)))) (news : List (Addr × Obj)) : RaiseOf w mean mg mb 226 [.str x t1] 13 news 70 := by
  dsimp only [RaiseOf]
  intro dp un gd cn cs a9 ccd cl outer A₀ base h₀ L m s Q E B F X N T hk hd9 hu9 XB TB hret
  suffices hz : (laid.heap_1 = laid.heap_1 → PySem.Challenge.rw_nu0021_01 = PySem.Challenge.rw_nu0021_01 → _) from hz rfl rfl
  k_fill
  intro _ _
  refine wpAny_call ?_
  k_dflt (refine' code_def ?k1 ?k2 ?k3 ?k4 ?k5 ?kA ?kF ?kK ?k6 ?k7 ?k8 ?k9 ?kB ?_ ?c2 ?c3 ?c4 ?c5; (case kA => exact rfl); (case kF => exact rfl); (case kK => assumption); (case k1 => k_asm); (case k2 => k_asm); (case k3 => k_asm); (case k4 => k_asm); (case k5 => k_asm); (case k6 => k_is); (case k7 => k_is); (case k8 => ktr_room); (case k9 => first | exact BindsTo.of_eq rfl | exact binds_K (by k_in) rfl (by k_is) rfl rfl rfl); (case c5 => decide); (case kB => exact locs rfl); (case c2 => exact rfl); (case c3 => exact rfl); (case c4 => exact rfl); k_whole; intro g' L' h' FG' F' N' B' X' T'; (try dsimp only); (try k_lift B'); (try k_fold))
  k_steps
  (refine' leave_onS (news := news) ?k1 ?k2 (raised_sub (by assumption) ?ks) ?k4 ?_; (case k1 => assumption); (case k2 => assumption); (case k4 => assumption); (case ks => exact fun p hp => by repeat (first | exact hp | refine List.mem_cons_of_mem _ ?_)); intro h8 R8 RK8 U8; exact hret _ _ _ _ _ _ (by assumption) R8 U8)
end

section
example : True := by
  k_with_none
  k_with "k_all" => (first | assumption | (intro p9 hp9; (repeat' (first | (with_reducible rename (∀ p : Addr × Obj, p ∈ (_ : List (Addr × Obj)) → @LT.lt Nat _ p.1 _) => hq9; first | replace hq9 := ltN (hq9 p9 hp9) | clear hq9) | (with_reducible rename AllLt _ _ => hq9; first | replace hq9 := ltN (ktn_ltOf hq9 p9 hp9) | clear hq9) | (with_reducible rename (_ ∧ AllLt _ _) => hq9; obtain ⟨hz9, hq9⟩ := hq9))); (refine neN ?_); omega))
  k_with "k_ne" => ((refine neN ?_; (try dsimp only); first | with_reducible assumption | exact Ne.symm (by with_reducible assumption) | exact ne_above (by with_reducible assumption) (by k_mem) | exact Ne.symm (ne_above (by with_reducible assumption) (by k_mem)) | exact ne_above1 (by with_reducible assumption) (by k_mem) | exact Ne.symm (ne_above1 (by with_reducible assumption) (by k_mem))))
  k_with "room" => (first | exact room_at (by with_reducible assumption) rfl rfl | exact room_at0 (by with_reducible assumption) rfl | exact room_at1 (by with_reducible assumption) rfl rfl)
  k_with "units" => (exact units_at (by with_reducible assumption) rfl rfl)
  k_with "x.p" => (refine' Prem.mk ?_ ?_ ?_ ?_ ?_ ?_ ?_ ?_; rotate_right 8; (focus k_asm); (focus k_asm); (focus k_asm); (focus (k_asm)); (focus k_asm); (focus (first | exact rfl | assumption)); (focus ktr_room); (focus ktr_units))
  k_with "x.pn" => (refine' Prem.mk ?_ ?_ ?_ ?_ ?_ ?_ ?_ ?_; rotate_right 8; (focus k_asm); (focus k_asm); (focus k_asm); (focus (first | k_asm | exact news_rot1 (by k_asm) | exact news_rot2 (by k_asm))); (focus k_asm); (focus (first | exact rfl | assumption)); (focus ktr_room); (focus ktr_units))
  k_with "x.pr" => (refine' Prem.mk ?_ ?_ ?_ ?_ ?_ ?_ ?_ ?_; rotate_right 8; (focus k_asm); (focus k_asm); (focus k_asm); (focus (first | k_asm | exact rot1 (by k_asm) | exact rot2 (by k_asm) | exact rot3 (by k_asm))); (focus k_asm); (focus (first | exact rfl | assumption)); (focus ktr_room); (focus ktr_units))
  k_with "x.t" => (intro t9 h9 tk9 F9 N9; (try dsimp only); (try k_fold))
  k_with "x.2" => (intro x9 t91 t92 h9 tk9 F9 N9 l9; (try k_lt l9); (try dsimp only); (try k_fold))
  k_with "x.3" => (intro x9 t91 t92 t93 h9 tk9 F9 N9 l9; (try k_lt l9); (try dsimp only); (try k_fold))
  k_with "x.4" => (intro x9 t91 t92 t93 t94 h9 tk9 F9 N9 l9; (try k_lt l9); (try dsimp only); (try k_fold))
  k_with "x.tt" => (intro t9 t91 h9 tk9 F9 N9; (try dsimp only); (try k_fold))
  k_with "x.take" => (intro d9 a9 b9 t9 t91 t92 n9 h9 tk9 hd0 hd1 ha9 hb9 hb99 F9 N9; (have hb9' := And.intro hb9 hb99); (try dsimp only); (try k_fold))
  k_with "x.r" => (intro e9 t9 ws9 h9 tk9 G9 FG9 R9 U9; (try dsimp only); (try k_fold))
  k_with "x.c" => (intro h9 tk9 g9 T9 F9 N9 B9 X9 P9 D9; (try dsimp only); (try k_fold))
  k_with "eval Name" => ((k_here; (first | ((with_reducible show wpAny _ _ (eval (Expr.Name _ _) (compEnvC _ _ _ _)) _ _ _); k_dflt (first | (name_kind "local"; refine' LCgL.ld_own ?_ ?_ ?_ ?_ ?_ ?_ ?_ ?_; rotate_right 8; rotate_left 6; (focus (first | kernel_rfl! | rfl)); rotate_right 6; rotate_left 5; (focus (rfl)); rotate_right 5; rotate_left 5; (focus (decide)); rotate_right 5; (focus (k_asm)); (focus (k_mem)); (focus (assumption)); (focus (assumption))) | (name_kind "globalImplicit"; first | (refine' LCgL.ld_global ?_ ?_ ?_ ?_ ?_ ?_ ?_ ?_ ?_; rotate_right 9; rotate_left 7; (focus (first | kernel_rfl! | rfl)); rotate_right 7; (focus (k_asm)); (focus (k_asm)); (focus (k_asm)); (focus (k_is)); rotate_left 1; (focus (rfl)); rotate_right 1; rotate_left 1; (focus (rfl)); rotate_right 1; rotate_left 1; (focus (decide)); rotate_right 1) | (refine' LCgL.ld_built ?_ ?_ ?_ ?_ ?_ ?_ ?_ ?_ ?_ ?_ ?_ ?_; rotate_right 12; rotate_left 10; (focus (first | kernel_rfl! | rfl)); rotate_right 10; (focus (k_asm)); (focus (k_asm)); (focus (k_asm)); (focus (k_is)); (focus (boot_by_name)); (focus (decide)); rotate_left 1; (focus (rfl)); rotate_right 1; rotate_left 1; (focus (rfl)); rotate_right 1; rotate_left 1; (focus (rfl)); rotate_right 1; rotate_left 1; (focus (decide)); rotate_right 1))) ) | ((fail_if_success (with_reducible show wpAny _ _ (eval (Expr.Name _ _) (compEnvC _ _ _ _)) _ _ _)); k_dflt (first | (name_kind "local"; refine' nameX_L ?_ ?_ ?_ ?_ ?_; rotate_right 5; rotate_left 4; (focus (first | kernel_rfl! | rfl)); rotate_right 4; rotate_left 3; (focus (rfl)); rotate_right 3; (focus (k_asm)); (focus (rfl)); k_whole) | (name_kind "globalImplicit"; first | (refine' nameX_K ?_ ?_ ?_ ?_ ?_ ?_ ?_; rotate_right 7; rotate_left 6; (focus (first | kernel_rfl! | rfl)); rotate_right 6; (focus (k_asm)); (focus (k_asm)); (focus (k_asm)); rotate_left 2; (focus (rfl)); rotate_right 2; (focus (k_is)); k_whole) | (refine' nameX_B ?_ ?_ ?_ ?_ ?_ ?_ ?_ ?_ ?_; rotate_right 9; rotate_left 8; (focus (first | kernel_rfl! | rfl)); rotate_right 8; (focus (k_asm)); (focus (k_asm)); (focus (k_asm)); rotate_left 4; (focus (rfl)); rotate_right 4; (focus (k_is)); (focus (boot_fast)); (focus (decide)); k_whole)) | (name_kind "cell"; refine' nameX_C ?_ ?_ ?_ ?_ ?_ ?_ ?_; rotate_right 7; rotate_left 6; (focus (first | kernel_rfl! | rfl)); rotate_right 6; rotate_left 5; (focus (rfl)); rotate_right 5; (focus (k_asm)); (focus (rfl)); (focus (k_mem)); (focus (k_asm)); k_whole))))))
  k_with "fold" => ((fail_if_success (fail_if_success k_fold)); (refine (let qk := _; let ek := _; (?_ : wpAny _ _ _ qk ek _))))
  k_with "isTrue BoolOp" => (k_here; k_extra "fold")
  k_with "isTrue Compare" => (k_here; k_extra "fold")
  k_with "isTrue UnaryOp" => (k_here; k_extra "fold")
  k_with "eval Call" => (k_here; k_extra "fold")
  k_with "eval Compare" => (k_here; k_extra "fold")
  k_with "eval BinOp" => (k_here; k_extra "fold")
  k_with "eval Tuple" => (k_here; k_extra "fold")
  k_with "eval List" => (k_here; k_extra "fold")
  trivial
def ReadBad (w : World) (mean : ExcName → Option Value) (mg mb : Str → Option Value) (y : Str) : Prop :=
  ∀ (t1 : Tok) (news : List (Addr × Obj)), RaiseOf w mean mg mb 226 [.str y t1] 13 news 70
theorem readbad_at {y : Str} (h : ReadBad w mean mg mb y) (t1 : Tok) (news : List (Addr × Obj)) : RaiseOf w mean mg mb 226 [.str y t1] 13 news 70 := h t1 news
example : True := by
  k_with "call ref" => ((k_here; k_dflt (refine' callByR (readbad_at ?_ _ _) ?_ ?_ ?_ ?_; rotate_right 4; (focus (walk_at "x.p")); (focus assumption); (focus assumption); (all_goals skip); rotate_right 1; (focus (k_asm)); walk_at "x.r")))
  trivial
set_option maxHeartbeats 4000000 in
theorem refused_is (x : Str) (t1 : Tok) (hr : ReadBad w mean mg mb x) (news : List (Addr × Obj)) : CatchOf w mean mg mb 273 [.str x t1] 15 news (.bool true) := by
  dsimp only [CatchOf]
  intro dp un gd cn cs a9 ccd cl outer A₀ base h₀ L m s Q E B F X N T hk hd9 hu9 XB TB D hret
  suffices hz : (laid.heap_1 = laid.heap_1 → PySem.Challenge.rw_nu0021_01 = PySem.Challenge.rw_nu0021_01 → _) from hz rfl rfl
  k_fill
  intro _ _
  refine wpAny_call ?_
  k_dflt (refine' code_defT ?k1 ?k2 ?k3 ?k4 ?k5 ?XB ?TB ?D ?kA ?kF ?kK ?k6 ?k7 ?k8 ?k9 ?kB ?_ ?c2 ?c3 ?c4 ?c5; (case kA => exact rfl); (case kF => exact rfl); (case kK => assumption); (case k1 => assumption); (case XB => exact XB); (case TB => exact TB); (case D => exact D); (case k2 => k_asm); (case k3 => exact X); (case k4 => k_asm); (case k5 => exact T); (case k6 => k_is); (case k7 => k_is); (case k8 => ktr_room); (case k9 => first | exact BindsTo.of_eq rfl | exact binds_K (by k_in) rfl (by k_is) rfl rfl rfl); (case c5 => decide); (case kB => exact locs rfl); (case c2 => exact rfl); (case c3 => exact rfl); (case c4 => exact rfl); k_whole; intro g' L' h' FG' F' N' B' X' T' D'; (try dsimp only); (try k_lift B'); (try k_fold))
  k_steps
  exact hret _ _ _ (by assumption) (by assumption) (by assumption) (by assumption) (by assumption) (by assumption) (by assumption)
end

section
example : True := by
  k_with_none
  k_with "k_all" => (first | assumption | (intro p9 hp9; (repeat' (first | (with_reducible rename (∀ p : Addr × Obj, p ∈ (_ : List (Addr × Obj)) → @LT.lt Nat _ p.1 _) => hq9; first | replace hq9 := ltN (hq9 p9 hp9) | clear hq9) | (with_reducible rename AllLt _ _ => hq9; first | replace hq9 := ltN (ktn_ltOf hq9 p9 hp9) | clear hq9) | (with_reducible rename (_ ∧ AllLt _ _) => hq9; obtain ⟨hz9, hq9⟩ := hq9))); (refine neN ?_); omega))
  k_with "k_ne" => ((refine neN ?_; (try dsimp only); first | with_reducible assumption | exact Ne.symm (by with_reducible assumption) | exact ne_above (by with_reducible assumption) (by k_mem) | exact Ne.symm (ne_above (by with_reducible assumption) (by k_mem)) | exact ne_above1 (by with_reducible assumption) (by k_mem) | exact Ne.symm (ne_above1 (by with_reducible assumption) (by k_mem))))
  k_with "room" => (first | exact room_at (by with_reducible assumption) rfl rfl | exact room_at0 (by with_reducible assumption) rfl | exact room_at1 (by with_reducible assumption) rfl rfl)
  k_with "units" => (exact units_at (by with_reducible assumption) rfl rfl)
  k_with "x.p" => (refine' Prem.mk ?_ ?_ ?_ ?_ ?_ ?_ ?_ ?_; rotate_right 8; (focus k_asm); (focus k_asm); (focus k_asm); (focus (k_asm)); (focus k_asm); (focus (first | exact rfl | assumption)); (focus ktr_room); (focus ktr_units))
  k_with "x.pn" => (refine' Prem.mk ?_ ?_ ?_ ?_ ?_ ?_ ?_ ?_; rotate_right 8; (focus k_asm); (focus k_asm); (focus k_asm); (focus (first | k_asm | exact news_rot1 (by k_asm) | exact news_rot2 (by k_asm))); (focus k_asm); (focus (first | exact rfl | assumption)); (focus ktr_room); (focus ktr_units))
  k_with "x.pr" => (refine' Prem.mk ?_ ?_ ?_ ?_ ?_ ?_ ?_ ?_; rotate_right 8; (focus k_asm); (focus k_asm); (focus k_asm); (focus (first | k_asm | exact rot1 (by k_asm) | exact rot2 (by k_asm) | exact rot3 (by k_asm))); (focus k_asm); (focus (first | exact rfl | assumption)); (focus ktr_room); (focus ktr_units))
  k_with "x.t" => (intro t9 h9 tk9 F9 N9; (try dsimp only); (try k_fold))
  k_with "x.2" => (intro x9 t91 t92 h9 tk9 F9 N9 l9; (try k_lt l9); (try dsimp only); (try k_fold))
  k_with "x.3" => (intro x9 t91 t92 t93 h9 tk9 F9 N9 l9; (try k_lt l9); (try dsimp only); (try k_fold))
  k_with "x.4" => (intro x9 t91 t92 t93 t94 h9 tk9 F9 N9 l9; (try k_lt l9); (try dsimp only); (try k_fold))
  k_with "x.tt" => (intro t9 t91 h9 tk9 F9 N9; (try dsimp only); (try k_fold))
  k_with "x.take" => (intro d9 a9 b9 t9 t91 t92 n9 h9 tk9 hd0 hd1 ha9 hb9 hb99 F9 N9; (have hb9' := And.intro hb9 hb99); (try dsimp only); (try k_fold))
  k_with "x.r" => (intro e9 t9 ws9 h9 tk9 G9 FG9 R9 U9; (try dsimp only); (try k_fold))
  k_with "x.c" => (intro h9 tk9 g9 T9 F9 N9 B9 X9 P9 D9; (try dsimp only); (try k_fold))
  k_with "eval Name" => ((k_here; (first | ((with_reducible show wpAny _ _ (eval (Expr.Name _ _) (compEnvC _ _ _ _)) _ _ _); k_dflt (first | (name_kind "local"; refine' LCgL.ld_own ?_ ?_ ?_ ?_ ?_ ?_ ?_ ?_; rotate_right 8; rotate_left 6; (focus (first | kernel_rfl! | rfl)); rotate_right 6; rotate_left 5; (focus (rfl)); rotate_right 5; rotate_left 5; (focus (decide)); rotate_right 5; (focus (k_asm)); (focus (k_mem)); (focus (assumption)); (focus (assumption))) | (name_kind "globalImplicit"; first | (refine' LCgL.ld_global ?_ ?_ ?_ ?_ ?_ ?_ ?_ ?_ ?_; rotate_right 9; rotate_left 7; (focus (first | kernel_rfl! | rfl)); rotate_right 7; (focus (k_asm)); (focus (k_asm)); (focus (k_asm)); (focus (k_is)); rotate_left 1; (focus (rfl)); rotate_right 1; rotate_left 1; (focus (rfl)); rotate_right 1; rotate_left 1; (focus (decide)); rotate_right 1) | (refine' LCgL.ld_built ?_ ?_ ?_ ?_ ?_ ?_ ?_ ?_ ?_ ?_ ?_ ?_; rotate_right 12; rotate_left 10; (focus (first | kernel_rfl! | rfl)); rotate_right 10; (focus (k_asm)); (focus (k_asm)); (focus (k_asm)); (focus (k_is)); (focus (boot_by_name)); (focus (decide)); rotate_left 1; (focus (rfl)); rotate_right 1; rotate_left 1; (focus (rfl)); rotate_right 1; rotate_left 1; (focus (rfl)); rotate_right 1; rotate_left 1; (focus (decide)); rotate_right 1))) ) | ((fail_if_success (with_reducible show wpAny _ _ (eval (Expr.Name _ _) (compEnvC _ _ _ _)) _ _ _)); k_dflt (first | (name_kind "local"; refine' nameX_L ?_ ?_ ?_ ?_ ?_; rotate_right 5; rotate_left 4; (focus (first | kernel_rfl! | rfl)); rotate_right 4; rotate_left 3; (focus (rfl)); rotate_right 3; (focus (k_asm)); (focus (rfl)); k_whole) | (name_kind "globalImplicit"; first | (refine' nameX_K ?_ ?_ ?_ ?_ ?_ ?_ ?_; rotate_right 7; rotate_left 6; (focus (first | kernel_rfl! | rfl)); rotate_right 6; (focus (k_asm)); (focus (k_asm)); (focus (k_asm)); rotate_left 2; (focus (rfl)); rotate_right 2; (focus (k_is)); k_whole) | (refine' nameX_B ?_ ?_ ?_ ?_ ?_ ?_ ?_ ?_ ?_; rotate_right 9; rotate_left 8; (focus (first | kernel_rfl! | rfl)); rotate_right 8; (focus (k_asm)); (focus (k_asm)); (focus (k_asm)); rotate_left 4; (focus (rfl)); rotate_right 4; (focus (k_is)); (focus (boot_fast)); (focus (decide)); k_whole)) | (name_kind "cell"; refine' nameX_C ?_ ?_ ?_ ?_ ?_ ?_ ?_; rotate_right 7; rotate_left 6; (focus (first | kernel_rfl! | rfl)); rotate_right 6; rotate_left 5; (focus (rfl)); rotate_right 5; (focus (k_asm)); (focus (rfl)); (focus (k_mem)); (focus (k_asm)); k_whole))))))
  k_with "fold" => ((fail_if_success (fail_if_success k_fold)); (refine (let qk := _; let ek := _; (?_ : wpAny _ _ _ qk ek _))))
  k_with "isTrue BoolOp" => (k_here; k_extra "fold")
  k_with "isTrue Compare" => (k_here; k_extra "fold")
  k_with "isTrue UnaryOp" => (k_here; k_extra "fold")
  k_with "eval Call" => (k_here; k_extra "fold")
  k_with "eval Compare" => (k_here; k_extra "fold")
  k_with "eval BinOp" => (k_here; k_extra "fold")
  k_with "eval Tuple" => (k_here; k_extra "fold")
  k_with "eval List" => (k_here; k_extra "fold")
  trivial
def ReadsTo (w : World) (mean : ExcName → Option Value) (mg mb : Str → Option Value) (x : Str) (r g b : Int) : Prop :=
  ∀ (t1 : Tok) (news : List (Addr × Obj)), CallOf w mean mg mb 226 [.str x t1] 11 news (fun h₀ L m s Q => Ret3 h₀ L m news s Q r g b)
/-- the text, blanks off its ends, lowered -/
theorem lowTo_T {p m q : List Nat} (hp : ∀ c ∈ p, Unicode.isSpace c = true) (hq : ∀ c ∈ q, Unicode.isSpace c = true) (h1 : ∀ c, m.head? = some c → Unicode.isSpace c = false) (h2 : ∀ c, m.getLast? = some c → Unicode.isSpace c = false) (hm : m ≠ []) (hl : m.length ≤ 100) (ha : ∀ c ∈ m, c < 128) :
    LowTo (Txt.strip (T (p ++ (m ++ q)))) (T (m.map lowN)) := by
  rw [strip_is hp hq h1 h2 hm]
  exact ⟨by rw [T_len]; exact hl, fun c hc => ha c hc, lowS_T m⟩
theorem dig_hash {m : List Nat} {r g b : Int} (t1 : Tok) (news : List (Addr × Obj)) (hl : m.length ≤ 90) (ha : ∀ c ∈ m, c < 128) (hL : ∀ c, (35 :: m).getLast? = some c → Unicode.isSpace c = false) (hd : DigIs w mean mg mb (T (m.map lowN)) r g b) :
    CallOf w mean mg mb 226 [.str (T (35 :: m)) t1] 11 news (fun h₀ L m s Q => Ret3 h₀ L m news s Q r g b) := by
  have hlow := lowTo_T (p := []) (m := 35 :: m) (q := []) (fun _ h => nomatch h) (fun _ h => nomatch h) (by intro c hc; cases hc; decide +kernel) hL (by simp) (by simp; omega) (by
    intro c hc
    rcases List.mem_cons.mp hc with rfl | h
    · decide
    · exact ha c h)
  rw [List.nil_append, List.append_nil] at hlow
  have e : (35 :: m).map lowN = 35 :: m.map lowN := rfl
  rw [e] at hlow
  have s1 : Txt.slice (T (35 :: m.map lowN)) none (some 1) = T [35] := slice_ns (j := 1) (by simp)
  have s2 : Txt.slice (T (35 :: m.map lowN)) (some 1) none = T (m.map lowN) := slice_sn (i := 1) (by simp)
  refine read_hash _ (T (35 :: m.map lowN)) t1 r g b (by rw [T_len]; simp; omega) hlow (by rw [T_len]; simp; omega) ?_ ?_ ?_ news
  · rw [noneS]; exact T_ne (by simp)
  · rw [s1, hashS]; exact T_eq rfl
  · rw [s2]; exact hd
theorem reads_hash6 (r g b : Int) (hr : 0 ≤ r ∧ r ≤ 255) (hg : 0 ≤ g ∧ g ≤ 255) (hb : 0 ≤ b ∧ b ≤ 255) : ReadsTo w mean mg mb (Str.ofString "#" ++ Txt.join (Str.ofString "") [Str.mk #[upDigit (r / 16), loDigit (r % 16)], Str.mk #[upDigit (g / 16), loDigit (g % 16)], Str.mk #[upDigit (b / 16), loDigit (b % 16)]]) r g b := by
  intro t1 news
  rw [hex_join]
  refine dig_hash t1 news (by simp) ?_ ?_ ?_
  · intro c hc
    simp only [List.mem_cons, List.not_mem_nil, or_false] at hc
    rcases hc with rfl | rfl | rfl | rfl | rfl | rfl <;> first | exact up_sm (by omega) | exact lo_sm (by omega)
  · intro c hc
    cases hc
    exact lo_nsp (by omega)
  · simp only [List.map_cons, List.map_nil]
    rw [low_up (by omega), low_up (by omega), low_up (by omega), low_lo (by omega), low_lo (by omega), low_lo (by omega)]
    intro t2 news2
    have q := sdig6_is (w := w) (mean := mean) (mg := mg) (mb := mb) _ _ _ _ _ _ t2 (lo_hex (n := r / 16) (by omega)) (lo_hex (n := r % 16) (by omega)) (lo_hex (n := g / 16) (by omega)) (lo_hex (n := g % 16) (by omega)) (lo_hex (n := b / 16) (by omega)) (lo_hex (n := b % 16) (by omega)) news2
    rw [lo_val (by omega), lo_val (by omega), lo_val (by omega), lo_val (by omega), lo_val (by omega), lo_val (by omega), show 16 * (r / 16) + r % 16 = r from by omega, show 16 * (g / 16) + g % 16 = g from by omega, show 16 * (b / 16) + b % 16 = b from by omega] at q
    exact q
theorem hex_join3 (a b c : Nat) : Str.ofString "#" ++ Txt.join (Str.ofString "") [⟨#[a]⟩, ⟨#[b]⟩, ⟨#[c]⟩] = T [35, a, b, c] := by
  rw [hashS, emptyS]
  rfl
theorem reads_hash3 (r g b : Int) (hr : 0 ≤ r ∧ r ≤ 15) (hg : 0 ≤ g ∧ g ≤ 15) (hb : 0 ≤ b ∧ b ≤ 15) : ReadsTo w mean mg mb (Str.ofString "#" ++ Txt.join (Str.ofString "") [Txt.item (Str.ofString "0123456789abcdef") r, Txt.item (Str.ofString "0123456789abcdef") g, Txt.item (Str.ofString "0123456789abcdef") b]) (17 * r) (17 * g) (17 * b) := by
  intro t1 news
  rw [lo_item (by omega), lo_item (by omega), lo_item (by omega), hex_join3]
  refine dig_hash t1 news (by simp) ?_ ?_ ?_
  · intro c hc
    simp only [List.mem_cons, List.not_mem_nil, or_false] at hc
    rcases hc with rfl | rfl | rfl <;> exact lo_sm (by omega)
  · intro c hc
    cases hc
    exact lo_nsp (by omega)
  · simp only [List.map_cons, List.map_nil]
    rw [low_lo (by omega), low_lo (by omega), low_lo (by omega)]
    intro t2 news2
    have q := sdig3_is (w := w) (mean := mean) (mg := mg) (mb := mb) _ _ _ t2 (lo_hex (n := r) (by omega)) (lo_hex (n := g) (by omega)) (lo_hex (n := b) (by omega)) news2
    rw [lo_val (by omega), lo_val (by omega), lo_val (by omega), show 16 * r + r = 17 * r from by omega, show 16 * g + g = 17 * g from by omega, show 16 * b + b = 17 * b from by omega] at q
    exact q
end

section
example : True := by
  k_with_none
  k_with "k_all" => (first | assumption | (intro p9 hp9; (repeat' (first | (with_reducible rename (∀ p : Addr × Obj, p ∈ (_ : List (Addr × Obj)) → @LT.lt Nat _ p.1 _) => hq9; first | replace hq9 := ltN (hq9 p9 hp9) | clear hq9) | (with_reducible rename AllLt _ _ => hq9; first | replace hq9 := ltN (ktn_ltOf hq9 p9 hp9) | clear hq9) | (with_reducible rename (_ ∧ AllLt _ _) => hq9; obtain ⟨hz9, hq9⟩ := hq9))); (refine neN ?_); omega))
  k_with "k_ne" => ((refine neN ?_; (try dsimp only); first | with_reducible assumption | exact Ne.symm (by with_reducible assumption) | exact ne_above (by with_reducible assumption) (by k_mem) | exact Ne.symm (ne_above (by with_reducible assumption) (by k_mem)) | exact ne_above1 (by with_reducible assumption) (by k_mem) | exact Ne.symm (ne_above1 (by with_reducible assumption) (by k_mem))))
  k_with "room" => (first | exact room_at (by with_reducible assumption) rfl rfl | exact room_at0 (by with_reducible assumption) rfl | exact room_at1 (by with_reducible assumption) rfl rfl)
  k_with "units" => (exact units_at (by with_reducible assumption) rfl rfl)
  k_with "x.p" => (refine' Prem.mk ?_ ?_ ?_ ?_ ?_ ?_ ?_ ?_; rotate_right 8; (focus k_asm); (focus k_asm); (focus k_asm); (focus (k_asm)); (focus k_asm); (focus (first | exact rfl | assumption)); (focus ktr_room); (focus ktr_units))
  k_with "x.pn" => (refine' Prem.mk ?_ ?_ ?_ ?_ ?_ ?_ ?_ ?_; rotate_right 8; (focus k_asm); (focus k_asm); (focus k_asm); (focus (first | k_asm | exact news_rot1 (by k_asm) | exact news_rot2 (by k_asm))); (focus k_asm); (focus (first | exact rfl | assumption)); (focus ktr_room); (focus ktr_units))
  k_with "x.pr" => (refine' Prem.mk ?_ ?_ ?_ ?_ ?_ ?_ ?_ ?_; rotate_right 8; (focus k_asm); (focus k_asm); (focus k_asm); (focus (first | k_asm | exact rot1 (by k_asm) | exact rot2 (by k_asm) | exact rot3 (by k_asm))); (focus k_asm); (focus (first | exact rfl | assumption)); (focus ktr_room); (focus ktr_units))
  k_with "x.t" => (intro t9 h9 tk9 F9 N9; (try dsimp only); (try k_fold))
  k_with "x.2" => (intro x9 t91 t92 h9 tk9 F9 N9 l9; (try k_lt l9); (try dsimp only); (try k_fold))
  k_with "x.3" => (intro x9 t91 t92 t93 h9 tk9 F9 N9 l9; (try k_lt l9); (try dsimp only); (try k_fold))
  k_with "x.4" => (intro x9 t91 t92 t93 t94 h9 tk9 F9 N9 l9; (try k_lt l9); (try dsimp only); (try k_fold))
  k_with "x.tt" => (intro t9 t91 h9 tk9 F9 N9; (try dsimp only); (try k_fold))
  k_with "x.take" => (intro d9 a9 b9 t9 t91 t92 n9 h9 tk9 hd0 hd1 ha9 hb9 hb99 F9 N9; (have hb9' := And.intro hb9 hb99); (try dsimp only); (try k_fold))
  k_with "x.r" => (intro e9 t9 ws9 h9 tk9 G9 FG9 R9 U9; (try dsimp only); (try k_fold))
  k_with "x.c" => (intro h9 tk9 g9 T9 F9 N9 B9 X9 P9 D9; (try dsimp only); (try k_fold))
  k_with "eval Name" => ((k_here; (first | ((with_reducible show wpAny _ _ (eval (Expr.Name _ _) (compEnvC _ _ _ _)) _ _ _); k_dflt (first | (name_kind "local"; refine' LCgL.ld_own ?_ ?_ ?_ ?_ ?_ ?_ ?_ ?_; rotate_right 8; rotate_left 6; (focus (first | kernel_rfl! | rfl)); rotate_right 6; rotate_left 5; (focus (rfl)); rotate_right 5; rotate_left 5; (focus (decide)); rotate_right 5; (focus (k_asm)); (focus (k_mem)); (focus (assumption)); (focus (assumption))) | (name_kind "globalImplicit"; first | (refine' LCgL.ld_global ?_ ?_ ?_ ?_ ?_ ?_ ?_ ?_ ?_; rotate_right 9; rotate_left 7; (focus (first | kernel_rfl! | rfl)); rotate_right 7; (focus (k_asm)); (focus (k_asm)); (focus (k_asm)); (focus (k_is)); rotate_left 1; (focus (rfl)); rotate_right 1; rotate_left 1; (focus (rfl)); rotate_right 1; rotate_left 1; (focus (decide)); rotate_right 1) | (refine' LCgL.ld_built ?_ ?_ ?_ ?_ ?_ ?_ ?_ ?_ ?_ ?_ ?_ ?_; rotate_right 12; rotate_left 10; (focus (first | kernel_rfl! | rfl)); rotate_right 10; (focus (k_asm)); (focus (k_asm)); (focus (k_asm)); (focus (k_is)); (focus (boot_by_name)); (focus (decide)); rotate_left 1; (focus (rfl)); rotate_right 1; rotate_left 1; (focus (rfl)); rotate_right 1; rotate_left 1; (focus (rfl)); rotate_right 1; rotate_left 1; (focus (decide)); rotate_right 1))) ) | ((fail_if_success (with_reducible show wpAny _ _ (eval (Expr.Name _ _) (compEnvC _ _ _ _)) _ _ _)); k_dflt (first | (name_kind "local"; refine' nameX_L ?_ ?_ ?_ ?_ ?_; rotate_right 5; rotate_left 4; (focus (first | kernel_rfl! | rfl)); rotate_right 4; rotate_left 3; (focus (rfl)); rotate_right 3; (focus (k_asm)); (focus (rfl)); k_whole) | (name_kind "globalImplicit"; first | (refine' nameX_K ?_ ?_ ?_ ?_ ?_ ?_ ?_; rotate_right 7; rotate_left 6; (focus (first | kernel_rfl! | rfl)); rotate_right 6; (focus (k_asm)); (focus (k_asm)); (focus (k_asm)); rotate_left 2; (focus (rfl)); rotate_right 2; (focus (k_is)); k_whole) | (refine' nameX_B ?_ ?_ ?_ ?_ ?_ ?_ ?_ ?_ ?_; rotate_right 9; rotate_left 8; (focus (first | kernel_rfl! | rfl)); rotate_right 8; (focus (k_asm)); (focus (k_asm)); (focus (k_asm)); rotate_left 4; (focus (rfl)); rotate_right 4; (focus (k_is)); (focus (boot_fast)); (focus (decide)); k_whole)) | (name_kind "cell"; refine' nameX_C ?_ ?_ ?_ ?_ ?_ ?_ ?_; rotate_right 7; rotate_left 6; (focus (first | kernel_rfl! | rfl)); rotate_right 6; rotate_left 5; (focus (rfl)); rotate_right 5; (focus (k_asm)); (focus (rfl)); (focus (k_mem)); (focus (k_asm)); k_whole))))))
  k_with "fold" => ((fail_if_success (fail_if_success k_fold)); (refine (let qk := _; let ek := _; (?_ : wpAny _ _ _ qk ek _))))
  k_with "isTrue BoolOp" => (k_here; k_extra "fold")
  k_with "isTrue Compare" => (k_here; k_extra "fold")
  k_with "isTrue UnaryOp" => (k_here; k_extra "fold")
  k_with "eval Call" => (k_here; k_extra "fold")
  k_with "eval Compare" => (k_here; k_extra "fold")
  k_with "eval BinOp" => (k_here; k_extra "fold")
  k_with "eval Tuple" => (k_here; k_extra "fold")
  k_with "eval List" => (k_here; k_extra "fold")
  trivial
def ReadsNone (w : World) (mean : ExcName → Option Value) (mg mb : Str → Option Value) (x : Str) : Prop :=
  ∀ (t1 : Tok) (news : List (Addr × Obj)), CallOf w mean mg mb 226 [.str x t1] 11 news (fun h₀ L m s Q => CbRet h₀ L m news s Q fun _ => .none)
/-- what read_colour looks at in a text that is a name, all at once -/
noncomputable def nameB (x T0 : Str) : Bool := x.length ≤ 100 && (Txt.strip x).length ≤ 100 && (Txt.strip x).cps.toList.all (· < 128) && lowS (Txt.strip x) == T0 && T0.length ≤ 100
noncomputable def nameC (T0 : Str) : Bool := !(T0 == Str.ofString "none") && !(Txt.slice T0 none (some 1) == Str.ofString "#") && !(Txt.slice T0 none (some 4) == Str.ofString "rgb(")
structure LowsTo (x T0 : Str) : Prop where
  hx : x.length ≤ 100
  hl : LowTo (Txt.strip x) T0
  hT : T0.length ≤ 100
theorem lows_of {x T0 : Str} (h : nameB x T0 = true) : LowsTo x T0 := by
  unfold nameB at h
  simp only [Bool.and_eq_true, decide_eq_true_eq, List.all_eq_true, beq_iff_eq] at h
  exact ⟨h.1.1.1.1, ⟨h.1.1.1.2, h.1.1.2, h.1.2⟩, h.2⟩
theorem named_reads {x : Str} {k : List Nat} {a b c d e f : Nat} (h : nameB x (T k) = true) (h2 : nameC (T k) = true) (hk : (k, [a, b, c, d, e, f]) ∈ theNames) (ha : isHex a) (hb : isHex b) (hc : isHex c) (hd : isHex d) (he : isHex e) (hf : isHex f) :
    ReadsTo w mean mg mb x (16 * hexV a + hexV b) (16 * hexV c + hexV d) (16 * hexV e + hexV f) := by
  intro t1 news
  have q := lows_of h
  unfold nameC at h2
  simp only [Bool.and_eq_true, Bool.not_eq_true'] at h2
  exact read_name x (T k) (T [a, b, c, d, e, f]) t1 _ _ _ q.hx q.hl q.hT h2.1.1 h2.1.2 h2.2 ⟨long_len, long_cnt, look_name hk⟩ (fun t2 n2 => sdig6_is _ _ _ _ _ _ t2 ha hb hc hd he hf n2) news
noncomputable def hexB (c : Nat) : Bool := (48 <= c && c <= 57) || (97 <= c && c <= 102)
theorem hexB_is {c : Nat} (h : hexB c = true) : isHex c := by
  unfold hexB at h
  unfold isHex
  simp only [Bool.or_eq_true, Bool.and_eq_true, decide_eq_true_eq] at h
  exact h
theorem name0 : ReadsTo w mean mg mb (Str.ofString " " ++ Str.ofString "red") 255 0 0 :=
  named_reads (k := [114, 101, 100]) (a := 102) (b := 102) (c := 48) (d := 48) (e := 48) (f := 48) (by decide +kernel) (by decide +kernel) (by decide +kernel) (hexB_is rfl) (hexB_is rfl) (hexB_is rfl) (hexB_is rfl) (hexB_is rfl) (hexB_is rfl)
theorem name1 : ReadsTo w mean mg mb (Str.ofString " " ++ Str.ofString "lime") 0 255 0 :=
  named_reads (k := [108, 105, 109, 101]) (a := 48) (b := 48) (c := 102) (d := 102) (e := 48) (f := 48) (by decide +kernel) (by decide +kernel) (by decide +kernel) (hexB_is rfl) (hexB_is rfl) (hexB_is rfl) (hexB_is rfl) (hexB_is rfl) (hexB_is rfl)
theorem name2 : ReadsTo w mean mg mb (Str.ofString " " ++ Str.ofString "green") 0 128 0 :=
  named_reads (k := [103, 114, 101, 101, 110]) (a := 48) (b := 48) (c := 56) (d := 48) (e := 48) (f := 48) (by decide +kernel) (by decide +kernel) (by decide +kernel) (hexB_is rfl) (hexB_is rfl) (hexB_is rfl) (hexB_is rfl) (hexB_is rfl) (hexB_is rfl)
theorem name3 : ReadsTo w mean mg mb (Str.ofString " " ++ Str.ofString "Navy") 0 0 128 :=
  named_reads (k := [110, 97, 118, 121]) (a := 48) (b := 48) (c := 48) (d := 48) (e := 56) (f := 48) (by decide +kernel) (by decide +kernel) (by decide +kernel) (hexB_is rfl) (hexB_is rfl) (hexB_is rfl) (hexB_is rfl) (hexB_is rfl) (hexB_is rfl)
theorem name4 : ReadsTo w mean mg mb (Str.ofString " " ++ Str.ofString "orange") 255 165 0 :=
  named_reads (k := [111, 114, 97, 110, 103, 101]) (a := 102) (b := 102) (c := 97) (d := 53) (e := 48) (f := 48) (by decide +kernel) (by decide +kernel) (by decide +kernel) (hexB_is rfl) (hexB_is rfl) (hexB_is rfl) (hexB_is rfl) (hexB_is rfl) (hexB_is rfl)
theorem name5 : ReadsTo w mean mg mb (Str.ofString " " ++ Str.ofString "grey") 128 128 128 :=
  named_reads (k := [103, 114, 101, 121]) (a := 56) (b := 48) (c := 56) (d := 48) (e := 56) (f := 48) (by decide +kernel) (by decide +kernel) (by decide +kernel) (hexB_is rfl) (hexB_is rfl) (hexB_is rfl) (hexB_is rfl) (hexB_is rfl) (hexB_is rfl)
theorem name6 : ReadsTo w mean mg mb (Str.ofString " " ++ Str.ofString "tan") 210 180 140 :=
  named_reads (k := [116, 97, 110]) (a := 100) (b := 50) (c := 98) (d := 52) (e := 56) (f := 99) (by decide +kernel) (by decide +kernel) (by decide +kernel) (hexB_is rfl) (hexB_is rfl) (hexB_is rfl) (hexB_is rfl) (hexB_is rfl) (hexB_is rfl)
theorem name7 : ReadsTo w mean mg mb (Str.ofString " " ++ Str.ofString "gray") 128 128 128 :=
  named_reads (k := [103, 114, 97, 121]) (a := 56) (b := 48) (c := 56) (d := 48) (e := 56) (f := 48) (by decide +kernel) (by decide +kernel) (by decide +kernel) (hexB_is rfl) (hexB_is rfl) (hexB_is rfl) (hexB_is rfl) (hexB_is rfl) (hexB_is rfl)
theorem name8 : ReadsTo w mean mg mb (Str.ofString " " ++ Str.ofString "aliceblue") 240 248 255 :=
  named_reads (k := [97, 108, 105, 99, 101, 98, 108, 117, 101]) (a := 102) (b := 48) (c := 102) (d := 56) (e := 102) (f := 102) (by decide +kernel) (by decide +kernel) (by decide +kernel) (hexB_is rfl) (hexB_is rfl) (hexB_is rfl) (hexB_is rfl) (hexB_is rfl) (hexB_is rfl)
theorem name9 : ReadsTo w mean mg mb (Str.ofString " " ++ Str.ofString "yellowgreen") 154 205 50 :=
  named_reads (k := [121, 101, 108, 108, 111, 119, 103, 114, 101, 101, 110]) (a := 57) (b := 97) (c := 99) (d := 100) (e := 51) (f := 50) (by decide +kernel) (by decide +kernel) (by decide +kernel) (hexB_is rfl) (hexB_is rfl) (hexB_is rfl) (hexB_is rfl) (hexB_is rfl) (hexB_is rfl)
theorem name10 : ReadsTo w mean mg mb (Str.ofString " " ++ Str.ofString "aqua") 0 255 255 :=
  named_reads (k := [97, 113, 117, 97]) (a := 48) (b := 48) (c := 102) (d := 102) (e := 102) (f := 102) (by decide +kernel) (by decide +kernel) (by decide +kernel) (hexB_is rfl) (hexB_is rfl) (hexB_is rfl) (hexB_is rfl) (hexB_is rfl) (hexB_is rfl)
theorem name11 : ReadsTo w mean mg mb (Str.ofString " " ++ Str.ofString "MediumVioletRed") 199 21 133 :=
  named_reads (k := [109, 101, 100, 105, 117, 109, 118, 105, 111, 108, 101, 116, 114, 101, 100]) (a := 99) (b := 55) (c := 49) (d := 53) (e := 56) (f := 53) (by decide +kernel) (by decide +kernel) (by decide +kernel) (hexB_is rfl) (hexB_is rfl) (hexB_is rfl) (hexB_is rfl) (hexB_is rfl) (hexB_is rfl)
theorem name12 : ReadsTo w mean mg mb (Str.ofString " " ++ Str.ofString "slategrey") 112 128 144 :=
  named_reads (k := [115, 108, 97, 116, 101, 103, 114, 101, 121]) (a := 55) (b := 48) (c := 56) (d := 48) (e := 57) (f := 48) (by decide +kernel) (by decide +kernel) (by decide +kernel) (hexB_is rfl) (hexB_is rfl) (hexB_is rfl) (hexB_is rfl) (hexB_is rfl) (hexB_is rfl)
theorem name13 : ReadsTo w mean mg mb (Str.ofString " " ++ Str.ofString "lightgoldenrodyellow") 250 250 210 :=
  named_reads (k := [108, 105, 103, 104, 116, 103, 111, 108, 100, 101, 110, 114, 111, 100, 121, 101, 108, 108, 111, 119]) (a := 102) (b := 97) (c := 102) (d := 97) (e := 100) (f := 50) (by decide +kernel) (by decide +kernel) (by decide +kernel) (hexB_is rfl) (hexB_is rfl) (hexB_is rfl) (hexB_is rfl) (hexB_is rfl) (hexB_is rfl)
theorem name14 : ReadsTo w mean mg mb (Str.ofString " " ++ Str.ofString "whitesmoke") 245 245 245 :=
  named_reads (k := [119, 104, 105, 116, 101, 115, 109, 111, 107, 101]) (a := 102) (b := 53) (c := 102) (d := 53) (e := 102) (f := 53) (by decide +kernel) (by decide +kernel) (by decide +kernel) (hexB_is rfl) (hexB_is rfl) (hexB_is rfl) (hexB_is rfl) (hexB_is rfl) (hexB_is rfl)
theorem none1 : ReadsNone w mean mg mb (Str.ofString "none") := by
  intro t1 news
  have q := lows_of (x := Str.ofString "none") (T0 := Str.ofString "none") (by decide +kernel)
  exact read_none _ _ t1 q.hx q.hl q.hT (by decide +kernel) news
theorem none2 : ReadsNone w mean mg mb (Str.ofString " NONE ") := by
  intro t1 news
  have q := lows_of (x := Str.ofString " NONE ") (T0 := Str.ofString "none") (by decide +kernel)
  exact read_none _ _ t1 q.hx q.hl q.hT (by decide +kernel) news
end

section
example : True := by
  k_with_none
  k_with "k_all" => (first | assumption | (intro p9 hp9; (repeat' (first | (with_reducible rename (∀ p : Addr × Obj, p ∈ (_ : List (Addr × Obj)) → @LT.lt Nat _ p.1 _) => hq9; first | replace hq9 := ltN (hq9 p9 hp9) | clear hq9) | (with_reducible rename AllLt _ _ => hq9; first | replace hq9 := ltN (ktn_ltOf hq9 p9 hp9) | clear hq9) | (with_reducible rename (_ ∧ AllLt _ _) => hq9; obtain ⟨hz9, hq9⟩ := hq9))); (refine neN ?_); omega))
  k_with "k_ne" => ((refine neN ?_; (try dsimp only); first | with_reducible assumption | exact Ne.symm (by with_reducible assumption) | exact ne_above (by with_reducible assumption) (by k_mem) | exact Ne.symm (ne_above (by with_reducible assumption) (by k_mem)) | exact ne_above1 (by with_reducible assumption) (by k_mem) | exact Ne.symm (ne_above1 (by with_reducible assumption) (by k_mem))))
  k_with "room" => (first | exact room_at (by with_reducible assumption) rfl rfl | exact room_at0 (by with_reducible assumption) rfl | exact room_at1 (by with_reducible assumption) rfl rfl)
  k_with "units" => (exact units_at (by with_reducible assumption) rfl rfl)
  k_with "x.p" => (refine' Prem.mk ?_ ?_ ?_ ?_ ?_ ?_ ?_ ?_; rotate_right 8; (focus k_asm); (focus k_asm); (focus k_asm); (focus (k_asm)); (focus k_asm); (focus (first | exact rfl | assumption)); (focus ktr_room); (focus ktr_units))
  k_with "x.pn" => (refine' Prem.mk ?_ ?_ ?_ ?_ ?_ ?_ ?_ ?_; rotate_right 8; (focus k_asm); (focus k_asm); (focus k_asm); (focus (first | k_asm | exact news_rot1 (by k_asm) | exact news_rot2 (by k_asm))); (focus k_asm); (focus (first | exact rfl | assumption)); (focus ktr_room); (focus ktr_units))
  k_with "x.pr" => (refine' Prem.mk ?_ ?_ ?_ ?_ ?_ ?_ ?_ ?_; rotate_right 8; (focus k_asm); (focus k_asm); (focus k_asm); (focus (first | k_asm | exact rot1 (by k_asm) | exact rot2 (by k_asm) | exact rot3 (by k_asm))); (focus k_asm); (focus (first | exact rfl | assumption)); (focus ktr_room); (focus ktr_units))
  k_with "x.t" => (intro t9 h9 tk9 F9 N9; (try dsimp only); (try k_fold))
  k_with "x.2" => (intro x9 t91 t92 h9 tk9 F9 N9 l9; (try k_lt l9); (try dsimp only); (try k_fold))
  k_with "x.3" => (intro x9 t91 t92 t93 h9 tk9 F9 N9 l9; (try k_lt l9); (try dsimp only); (try k_fold))
  k_with "x.4" => (intro x9 t91 t92 t93 t94 h9 tk9 F9 N9 l9; (try k_lt l9); (try dsimp only); (try k_fold))
  k_with "x.tt" => (intro t9 t91 h9 tk9 F9 N9; (try dsimp only); (try k_fold))
  k_with "x.take" => (intro d9 a9 b9 t9 t91 t92 n9 h9 tk9 hd0 hd1 ha9 hb9 hb99 F9 N9; (have hb9' := And.intro hb9 hb99); (try dsimp only); (try k_fold))
  k_with "x.r" => (intro e9 t9 ws9 h9 tk9 G9 FG9 R9 U9; (try dsimp only); (try k_fold))
  k_with "x.c" => (intro h9 tk9 g9 T9 F9 N9 B9 X9 P9 D9; (try dsimp only); (try k_fold))
  k_with "eval Name" => ((k_here; (first | ((with_reducible show wpAny _ _ (eval (Expr.Name _ _) (compEnvC _ _ _ _)) _ _ _); k_dflt (first | (name_kind "local"; refine' LCgL.ld_own ?_ ?_ ?_ ?_ ?_ ?_ ?_ ?_; rotate_right 8; rotate_left 6; (focus (first | kernel_rfl! | rfl)); rotate_right 6; rotate_left 5; (focus (rfl)); rotate_right 5; rotate_left 5; (focus (decide)); rotate_right 5; (focus (k_asm)); (focus (k_mem)); (focus (assumption)); (focus (assumption))) | (name_kind "globalImplicit"; first | (refine' LCgL.ld_global ?_ ?_ ?_ ?_ ?_ ?_ ?_ ?_ ?_; rotate_right 9; rotate_left 7; (focus (first | kernel_rfl! | rfl)); rotate_right 7; (focus (k_asm)); (focus (k_asm)); (focus (k_asm)); (focus (k_is)); rotate_left 1; (focus (rfl)); rotate_right 1; rotate_left 1; (focus (rfl)); rotate_right 1; rotate_left 1; (focus (decide)); rotate_right 1) | (refine' LCgL.ld_built ?_ ?_ ?_ ?_ ?_ ?_ ?_ ?_ ?_ ?_ ?_ ?_; rotate_right 12; rotate_left 10; (focus (first | kernel_rfl! | rfl)); rotate_right 10; (focus (k_asm)); (focus (k_asm)); (focus (k_asm)); (focus (k_is)); (focus (boot_by_name)); (focus (decide)); rotate_left 1; (focus (rfl)); rotate_right 1; rotate_left 1; (focus (rfl)); rotate_right 1; rotate_left 1; (focus (rfl)); rotate_right 1; rotate_left 1; (focus (decide)); rotate_right 1))) ) | ((fail_if_success (with_reducible show wpAny _ _ (eval (Expr.Name _ _) (compEnvC _ _ _ _)) _ _ _)); k_dflt (first | (name_kind "local"; refine' nameX_L ?_ ?_ ?_ ?_ ?_; rotate_right 5; rotate_left 4; (focus (first | kernel_rfl! | rfl)); rotate_right 4; rotate_left 3; (focus (rfl)); rotate_right 3; (focus (k_asm)); (focus (rfl)); k_whole) | (name_kind "globalImplicit"; first | (refine' nameX_K ?_ ?_ ?_ ?_ ?_ ?_ ?_; rotate_right 7; rotate_left 6; (focus (first | kernel_rfl! | rfl)); rotate_right 6; (focus (k_asm)); (focus (k_asm)); (focus (k_asm)); rotate_left 2; (focus (rfl)); rotate_right 2; (focus (k_is)); k_whole) | (refine' nameX_B ?_ ?_ ?_ ?_ ?_ ?_ ?_ ?_ ?_; rotate_right 9; rotate_left 8; (focus (first | kernel_rfl! | rfl)); rotate_right 8; (focus (k_asm)); (focus (k_asm)); (focus (k_asm)); rotate_left 4; (focus (rfl)); rotate_right 4; (focus (k_is)); (focus (boot_fast)); (focus (decide)); k_whole)) | (name_kind "cell"; refine' nameX_C ?_ ?_ ?_ ?_ ?_ ?_ ?_; rotate_right 7; rotate_left 6; (focus (first | kernel_rfl! | rfl)); rotate_right 6; rotate_left 5; (focus (rfl)); rotate_right 5; (focus (k_asm)); (focus (rfl)); (focus (k_mem)); (focus (k_asm)); k_whole))))))
  k_with "fold" => ((fail_if_success (fail_if_success k_fold)); (refine (let qk := _; let ek := _; (?_ : wpAny _ _ _ qk ek _))))
  k_with "isTrue BoolOp" => (k_here; k_extra "fold")
  k_with "isTrue Compare" => (k_here; k_extra "fold")
  k_with "isTrue UnaryOp" => (k_here; k_extra "fold")
  k_with "eval Call" => (k_here; k_extra "fold")
  k_with "eval Compare" => (k_here; k_extra "fold")
  k_with "eval BinOp" => (k_here; k_extra "fold")
  k_with "eval Tuple" => (k_here; k_extra "fold")
  k_with "eval List" => (k_here; k_extra "fold")
  trivial
theorem commaS : Str.ofString "," = T [44] := by decide +kernel
theorem bad_name (k : List Nat) {x : Str} (h : nameB x (T k) = true) (n0 : (T k == Str.ofString "none") = false) (n1 : (Txt.slice (T k) none (some 1) == Str.ofString "#") = false)
    (n2 : (Txt.slice (T k) none (some 4) == Str.ofString "rgb(") = false) (hn : k ∈ noNames) : ReadBad w mean mg mb x := fun t1 news =>
  let q := lows_of h
  readx_name x (T k) t1 q.hx q.hl q.hT n0 n1 n2 ⟨long_len, long_cnt, look_none hn⟩ news
theorem bad_hash {x T0 : Str} (h : nameB x T0 = true) (n0 : (T0 == Str.ofString "none") = false) (n1 : (Txt.slice T0 none (some 1) == Str.ofString "#") = true)
    (l1 : (Txt.slice T0 (some 1) none).length ≤ 100) (l2 : ([3, 6].any fun x => x == ((Txt.slice T0 (some 1) none).length : Int)) = false) : ReadBad w mean mg mb x := fun t1 news =>
  let q := lows_of h
  readx_hash x T0 t1 q.hx q.hl q.hT n0 n1 (fun t2 n2 => sdig_len _ t2 l1 l2 n2) news
theorem bad_rgb {x T0 : Str} (h : nameB x T0 = true) (n0 : (T0 == Str.ofString "none") = false) (n1 : (Txt.slice T0 none (some 1) == Str.ofString "#") = false) (n2 : (Txt.slice T0 none (some 4) == Str.ofString "rgb(") = true)
    (n3 : (Txt.slice T0 (some (-1)) none == Str.ofString ")") = true) (y : Str) (e : (Txt.slice T0 (some 4) (some (-1)) == y) = true) (hd : PartsBad w mean mg mb y) : ReadBad w mean mg mb x := fun t1 news =>
  let q := lows_of h
  readx_rgb x T0 t1 q.hx q.hl q.hT n0 n1 n2 n3 ((eq_of_beq e) ▸ hd) news
theorem part_no (x : Str) (hx : x.length ≤ 12) (hs : oneOf x 0 (Str.ofString "+-") = false) (hd : digEnd x 0 = 0) (hdot : oneOf x 0 (Str.ofString ".") = false) (he : (Txt.slice x (some 0) (some 0) == Str.ofString "") = true)
    (hp : (Txt.slice x (some (-1)) none == Str.ofString "%") = false) : PartBad w mean mg mb x := fun t1 news => by
  have e := eq_of_beq he
  refine part_bad x t1 (fun t2 n2 => ?_) (by omega) hp news
  refine readdecx_is x t2 hx hs ?_ ?_ ?_ ?_ ?_ n2
  · rw [hd]; exact hdot
  · rw [hd]; decide
  · rw [hd, e]; decide +kernel
  · rw [hd, e]; decide +kernel
  · rw [hd, e]; decide +kernel
theorem odd0 : ReadBad w mean mg mb (Str.ofString "") := bad_name [] (by decide +kernel) (by decide +kernel) (by decide +kernel) (by decide +kernel) (by decide +kernel)
theorem odd10 : ReadBad w mean mg mb (Str.ofString "nothing") := bad_name [110, 111, 116, 104, 105, 110, 103] (by decide +kernel) (by decide +kernel) (by decide +kernel) (by decide +kernel) (by decide +kernel)
theorem nameX : ReadBad w mean mg mb (Str.ofString "rebecca") := bad_name [114, 101, 98, 101, 99, 99, 97] (by decide +kernel) (by decide +kernel) (by decide +kernel) (by decide +kernel) (by decide +kernel)
theorem odd1 : ReadBad w mean mg mb (Str.ofString "#") := bad_hash (T0 := Str.ofString "#") (by decide +kernel) (by decide +kernel) (by decide +kernel) (by decide +kernel) (by decide +kernel)
theorem odd2 : ReadBad w mean mg mb (Str.ofString "#12") := bad_hash (T0 := Str.ofString "#12") (by decide +kernel) (by decide +kernel) (by decide +kernel) (by decide +kernel) (by decide +kernel)
theorem odd3 : ReadBad w mean mg mb (Str.ofString "#1234") := bad_hash (T0 := Str.ofString "#1234") (by decide +kernel) (by decide +kernel) (by decide +kernel) (by decide +kernel) (by decide +kernel)
theorem odd4 : ReadBad w mean mg mb (Str.ofString "#ggg") := fun t1 news => by
  have q := lows_of (x := Str.ofString "#ggg") (T0 := Str.ofString "#ggg") (by decide +kernel)
  have e : Txt.slice (Str.ofString "#ggg") (some 1) none = ⟨#[103, 103, 103]⟩ := by decide +kernel
  exact readx_hash _ _ t1 q.hx q.hl q.hT (by decide +kernel) (by decide +kernel) (fun t2 n2 => e ▸ sdig_ggg t2 n2) news
theorem split3 {a b c : List Nat} (ha : 44 ∉ a) (hb : 44 ∉ b) (hc : 44 ∉ c) : Txt.split (T (a ++ 44 :: (b ++ 44 :: c))) (Str.ofString ",") = [T a, T b, T c] := by
  rw [commaS]
  exact split_three ha hb hc
theorem split2 {a b : List Nat} (ha : 44 ∉ a) (hb : 44 ∉ b) : Txt.split (T (a ++ 44 :: b)) (Str.ofString ",") = [T a, T b] := by
  rw [commaS]
  refine map_T (ps := [a, b]) ?_
  rw [split_cutc]
  show cutc 44 (a ++ 44 :: b) = _
  rw [cutc_app _ ha, cutc_free hb]
theorem odd5 : ReadBad w mean mg mb (Str.ofString "rgb(1,2)") :=
  bad_rgb (T0 := Str.ofString "rgb(1,2)") (by decide +kernel) (by decide +kernel) (by decide +kernel) (by decide +kernel) (by decide +kernel) (T [49, 44, 50]) (by decide +kernel) fun t2 n2 => parts_two _ _ _ t2 (by decide +kernel) (split2 (a := [49]) (b := [50]) (by decide) (by decide)) n2
theorem odd6 : ReadBad w mean mg mb (Str.ofString "rgb(1,2,3") := fun t1 news => by
  have q := lows_of (x := Str.ofString "rgb(1,2,3") (T0 := T [114, 103, 98, 40, 49, 44, 50, 44, 51]) (by decide +kernel)
  exact readx_open _ _ t1 q.hx q.hl q.hT (by decide +kernel) (by decide +kernel) (by decide +kernel) (by decide +kernel) ⟨long_len, long_cnt, look_none (by decide +kernel)⟩ news
theorem odd7 : ReadBad w mean mg mb (Str.ofString "rgb(1,2%,3)") :=
  bad_rgb (T0 := Str.ofString "rgb(1,2%,3)") (by decide +kernel) (by decide +kernel) (by decide +kernel) (by decide +kernel) (by decide +kernel) (T [49, 44, 50, 37, 44, 51]) (by decide +kernel) fun t2 n2 =>
    parts_mixed _ _ _ _ (T [49]) (T [50, 37]) (T [51]) t2 (by decide +kernel) ⟨split3 (a := [49]) (b := [50, 37]) (c := [51]) (by decide) (by decide) (by decide), by decide +kernel, by decide +kernel, by decide +kernel⟩ ⟨by decide +kernel, by decide +kernel, by decide +kernel, by decide +kernel, by decide +kernel, by decide +kernel⟩ n2
theorem odd8 : ReadBad w mean mg mb (Str.ofString "rgb(,,)") :=
  bad_rgb (T0 := Str.ofString "rgb(,,)") (by decide +kernel) (by decide +kernel) (by decide +kernel) (by decide +kernel) (by decide +kernel) (T [44, 44]) (by decide +kernel) fun t2 n2 =>
    parts_bad _ _ _ _ (T []) (T []) (T []) t2 (by decide +kernel) ⟨split3 (a := []) (b := []) (c := []) (by decide) (by decide) (by decide), by decide +kernel, by decide +kernel, by decide +kernel⟩ ⟨by decide +kernel, by decide +kernel, by decide +kernel, by decide +kernel, by decide +kernel, by decide +kernel⟩
      (part_no (T []) (by decide +kernel) (by decide +kernel) (by decide +kernel) (by decide +kernel) (by decide +kernel) (by decide +kernel)) n2
theorem odd9 : ReadBad w mean mg mb (Str.ofString "rgb(a,b,c)") :=
  bad_rgb (T0 := Str.ofString "rgb(a,b,c)") (by decide +kernel) (by decide +kernel) (by decide +kernel) (by decide +kernel) (by decide +kernel) (T [97, 44, 98, 44, 99]) (by decide +kernel) fun t2 n2 =>
    parts_bad _ _ _ _ (T [97]) (T [98]) (T [99]) t2 (by decide +kernel) ⟨split3 (a := [97]) (b := [98]) (c := [99]) (by decide) (by decide) (by decide), by decide +kernel, by decide +kernel, by decide +kernel⟩ ⟨by decide +kernel, by decide +kernel, by decide +kernel, by decide +kernel, by decide +kernel, by decide +kernel⟩
      (part_no (T [97]) (by decide +kernel) (by decide +kernel) (by decide +kernel) (by decide +kernel) (by decide +kernel) (by decide +kernel)) n2
theorem odd_bad : ∀ x ∈ [Str.ofString "", Str.ofString "#", Str.ofString "#12", Str.ofString "#1234", Str.ofString "#ggg", Str.ofString "rgb(1,2)", Str.ofString "rgb(1,2,3", Str.ofString "rgb(1,2%,3)", Str.ofString "rgb(,,)", Str.ofString "rgb(a,b,c)", Str.ofString "nothing"], ReadBad w mean mg mb x :=
  List.forall_mem_cons.mpr ⟨odd0, List.forall_mem_cons.mpr ⟨odd1, List.forall_mem_cons.mpr ⟨odd2, List.forall_mem_cons.mpr ⟨odd3, List.forall_mem_cons.mpr ⟨odd4, List.forall_mem_cons.mpr ⟨odd5, List.forall_mem_cons.mpr ⟨odd6, List.forall_mem_cons.mpr ⟨odd7, List.forall_mem_cons.mpr ⟨odd8, List.forall_mem_cons.mpr ⟨odd9, List.forall_mem_cons.mpr ⟨odd10, fun _ h => nomatch h⟩⟩⟩⟩⟩⟩⟩⟩⟩⟩⟩
end

section
example : True := by
  k_with_none
  k_with "k_all" => (first | assumption | (intro p9 hp9; (repeat' (first | (with_reducible rename (∀ p : Addr × Obj, p ∈ (_ : List (Addr × Obj)) → @LT.lt Nat _ p.1 _) => hq9; first | replace hq9 := ltN (hq9 p9 hp9) | clear hq9) | (with_reducible rename AllLt _ _ => hq9; first | replace hq9 := ltN (ktn_ltOf hq9 p9 hp9) | clear hq9) | (with_reducible rename (_ ∧ AllLt _ _) => hq9; obtain ⟨hz9, hq9⟩ := hq9))); (refine neN ?_); omega))
  k_with "k_ne" => ((refine neN ?_; (try dsimp only); first | with_reducible assumption | exact Ne.symm (by with_reducible assumption) | exact ne_above (by with_reducible assumption) (by k_mem) | exact Ne.symm (ne_above (by with_reducible assumption) (by k_mem)) | exact ne_above1 (by with_reducible assumption) (by k_mem) | exact Ne.symm (ne_above1 (by with_reducible assumption) (by k_mem))))
  k_with "room" => (first | exact room_at (by with_reducible assumption) rfl rfl | exact room_at0 (by with_reducible assumption) rfl | exact room_at1 (by with_reducible assumption) rfl rfl)
  k_with "units" => (exact units_at (by with_reducible assumption) rfl rfl)
  k_with "x.p" => (refine' Prem.mk ?_ ?_ ?_ ?_ ?_ ?_ ?_ ?_; rotate_right 8; (focus k_asm); (focus k_asm); (focus k_asm); (focus (k_asm)); (focus k_asm); (focus (first | exact rfl | assumption)); (focus ktr_room); (focus ktr_units))
  k_with "x.pn" => (refine' Prem.mk ?_ ?_ ?_ ?_ ?_ ?_ ?_ ?_; rotate_right 8; (focus k_asm); (focus k_asm); (focus k_asm); (focus (first | k_asm | exact news_rot1 (by k_asm) | exact news_rot2 (by k_asm))); (focus k_asm); (focus (first | exact rfl | assumption)); (focus ktr_room); (focus ktr_units))
  k_with "x.pr" => (refine' Prem.mk ?_ ?_ ?_ ?_ ?_ ?_ ?_ ?_; rotate_right 8; (focus k_asm); (focus k_asm); (focus k_asm); (focus (first | k_asm | exact rot1 (by k_asm) | exact rot2 (by k_asm) | exact rot3 (by k_asm))); (focus k_asm); (focus (first | exact rfl | assumption)); (focus ktr_room); (focus ktr_units))
  k_with "x.t" => (intro t9 h9 tk9 F9 N9; (try dsimp only); (try k_fold))
  k_with "x.2" => (intro x9 t91 t92 h9 tk9 F9 N9 l9; (try k_lt l9); (try dsimp only); (try k_fold))
  k_with "x.3" => (intro x9 t91 t92 t93 h9 tk9 F9 N9 l9; (try k_lt l9); (try dsimp only); (try k_fold))
  k_with "x.4" => (intro x9 t91 t92 t93 t94 h9 tk9 F9 N9 l9; (try k_lt l9); (try dsimp only); (try k_fold))
  k_with "x.tt" => (intro t9 t91 h9 tk9 F9 N9; (try dsimp only); (try k_fold))
  k_with "x.take" => (intro d9 a9 b9 t9 t91 t92 n9 h9 tk9 hd0 hd1 ha9 hb9 hb99 F9 N9; (have hb9' := And.intro hb9 hb99); (try dsimp only); (try k_fold))
  k_with "x.r" => (intro e9 t9 ws9 h9 tk9 G9 FG9 R9 U9; (try dsimp only); (try k_fold))
  k_with "x.c" => (intro h9 tk9 g9 T9 F9 N9 B9 X9 P9 D9; (try dsimp only); (try k_fold))
  k_with "eval Name" => ((k_here; (first | ((with_reducible show wpAny _ _ (eval (Expr.Name _ _) (compEnvC _ _ _ _)) _ _ _); k_dflt (first | (name_kind "local"; refine' LCgL.ld_own ?_ ?_ ?_ ?_ ?_ ?_ ?_ ?_; rotate_right 8; rotate_left 6; (focus (first | kernel_rfl! | rfl)); rotate_right 6; rotate_left 5; (focus (rfl)); rotate_right 5; rotate_left 5; (focus (decide)); rotate_right 5; (focus (k_asm)); (focus (k_mem)); (focus (assumption)); (focus (assumption))) | (name_kind "globalImplicit"; first | (refine' LCgL.ld_global ?_ ?_ ?_ ?_ ?_ ?_ ?_ ?_ ?_; rotate_right 9; rotate_left 7; (focus (first | kernel_rfl! | rfl)); rotate_right 7; (focus (k_asm)); (focus (k_asm)); (focus (k_asm)); (focus (k_is)); rotate_left 1; (focus (rfl)); rotate_right 1; rotate_left 1; (focus (rfl)); rotate_right 1; rotate_left 1; (focus (decide)); rotate_right 1) | (refine' LCgL.ld_built ?_ ?_ ?_ ?_ ?_ ?_ ?_ ?_ ?_ ?_ ?_ ?_; rotate_right 12; rotate_left 10; (focus (first | kernel_rfl! | rfl)); rotate_right 10; (focus (k_asm)); (focus (k_asm)); (focus (k_asm)); (focus (k_is)); (focus (boot_by_name)); (focus (decide)); rotate_left 1; (focus (rfl)); rotate_right 1; rotate_left 1; (focus (rfl)); rotate_right 1; rotate_left 1; (focus (rfl)); rotate_right 1; rotate_left 1; (focus (decide)); rotate_right 1))) ) | ((fail_if_success (with_reducible show wpAny _ _ (eval (Expr.Name _ _) (compEnvC _ _ _ _)) _ _ _)); k_dflt (first | (name_kind "local"; refine' nameX_L ?_ ?_ ?_ ?_ ?_; rotate_right 5; rotate_left 4; (focus (first | kernel_rfl! | rfl)); rotate_right 4; rotate_left 3; (focus (rfl)); rotate_right 3; (focus (k_asm)); (focus (rfl)); k_whole) | (name_kind "globalImplicit"; first | (refine' nameX_K ?_ ?_ ?_ ?_ ?_ ?_ ?_; rotate_right 7; rotate_left 6; (focus (first | kernel_rfl! | rfl)); rotate_right 6; (focus (k_asm)); (focus (k_asm)); (focus (k_asm)); rotate_left 2; (focus (rfl)); rotate_right 2; (focus (k_is)); k_whole) | (refine' nameX_B ?_ ?_ ?_ ?_ ?_ ?_ ?_ ?_ ?_; rotate_right 9; rotate_left 8; (focus (first | kernel_rfl! | rfl)); rotate_right 8; (focus (k_asm)); (focus (k_asm)); (focus (k_asm)); rotate_left 4; (focus (rfl)); rotate_right 4; (focus (k_is)); (focus (boot_fast)); (focus (decide)); k_whole)) | (name_kind "cell"; refine' nameX_C ?_ ?_ ?_ ?_ ?_ ?_ ?_; rotate_right 7; rotate_left 6; (focus (first | kernel_rfl! | rfl)); rotate_right 6; rotate_left 5; (focus (rfl)); rotate_right 5; (focus (k_asm)); (focus (rfl)); (focus (k_mem)); (focus (k_asm)); k_whole))))))
  k_with "fold" => ((fail_if_success (fail_if_success k_fold)); (refine (let qk := _; let ek := _; (?_ : wpAny _ _ _ qk ek _))))
  k_with "isTrue BoolOp" => (k_here; k_extra "fold")
  k_with "isTrue Compare" => (k_here; k_extra "fold")
  k_with "isTrue UnaryOp" => (k_here; k_extra "fold")
  k_with "eval Call" => (k_here; k_extra "fold")
  k_with "eval Compare" => (k_here; k_extra "fold")
  k_with "eval BinOp" => (k_here; k_extra "fold")
  k_with "eval Tuple" => (k_here; k_extra "fold")
  k_with "eval List" => (k_here; k_extra "fold")
  trivial
theorem signsS : Str.ofString "+-" = T [43, 45] := by decide +kernel
theorem dotS : Str.ofString "." = T [46] := by decide +kernel
theorem pctS_is : Str.ofString "%" = T [37] := by decide +kernel
theorem rgbS : Str.ofString "rgb(" = T [114, 103, 98, 40] := by decide +kernel
theorem closeS : Str.ofString ")" = T [41] := by decide +kernel
theorem oneOf_end' {l : List Nat} {i : Nat} {sg : Str} (h : l.length ≤ i) : oneOf (T l) ((i : Nat) : Int) sg = false := oneOf_end (by omega)
theorem first_not {ds r : List Nat} (hd : ∀ c ∈ ds, isD c) (hne : ds ≠ []) : oneOf (T (ds ++ r)) 0 (Str.ofString "+-") = false := by
  cases ds with
  | nil => exact absurd rfl hne
  | cons d t =>
    have hq := hd d List.mem_cons_self
    have := oneOf_mid (a := []) (r := t ++ r) (c := d) (sg := [43, 45])
    rw [signsS]
    refine Eq.trans this ?_
    unfold isD at hq
    simp
    omega
theorem reads_num {ds : List Nat} {n : Nat} (N : NumL n ds) : ReadsAs w mean mg mb (T ds) n 1 := by
  intro t1 news
  have e : digEnd (T ds) 0 = ((ds.length : Nat) : Int) := by
    have := digEnd_run (a := []) (ds := ds) (rest := []) N.dig (by simp)
    simpa using this
  have sl : Txt.slice (T ds) (some 0) (some (digEnd (T ds) 0)) ++ Str.ofString "" = T ds := by
    rw [e, show Txt.slice (T ds) (some 0) (some ((ds.length : Nat) : Int)) = T ((ds.drop 0).take (ds.length - 0)) from slice_ss (i := 0) (by omega) (by omega), emptyS, T_app]
    simp
  have hf := first_not (r := []) N.dig N.ne
  rw [List.append_nil] at hf
  have l3 := N.len
  have q := readdec_whole (w := w) (mean := mean) (mg := mg) (mb := mb) (T ds) t1 (by rw [T_len]; omega) hf (by rw [e, T_len]) (by rw [e]; exact oneOf_end' (Nat.le_refl _)) (by rw [e]; exact oneOf_end' (Nat.le_refl _)) (by rw [sl]; exact N.dig) (by rw [sl, T_len]; omega) (by rw [sl, emptyS]; exact T_ne N.ne) news
  rw [sl] at q
  rwa [show wholeS (T ds) = (n : Int) from N.val] at q
theorem last_not {ds : List Nat} (hd : ∀ c ∈ ds, isD c) (hne : ds ≠ []) : (Txt.slice (T ds) (some (-1)) none == Str.ofString "%") = false := by
  have e := List.dropLast_concat_getLast hne
  have hm := hd _ (List.getLast_mem hne)
  rw [← e, slice_last, pctS_is]
  refine T_ne ?_
  intro z
  unfold isD at hm
  injection z with z1 z2
  omega
theorem part_n {ds : List Nat} {n : Nat} (N : NumL n ds) : PartIs w mean mg mb (T ds) (min (max (n : Int) 0) 255) := by
  intro t1 news
  have l3 := N.len
  have q := part_num (w := w) (mean := mean) (mg := mg) (mb := mb) (T ds) t1 n 1 (reads_num N) (by decide) (by rw [T_len]; omega) (last_not N.dig N.ne) news
  rwa [show (2 * (n : Int) + 1) / (2 * 1) = n from by omega] at q
theorem part_m3 : PartIs w mean mg mb (T [45, 51]) (min (max (-3) 0) 255) := by
  intro t1 news
  have hr : ReadsAs w mean mg mb (T [45, 51]) (-3) 1 := by
    intro t2 n2
    have q := readdec_neg (w := w) (mean := mean) (mg := mg) (mb := mb) (T [45, 51]) t2 (by decide +kernel) (by decide +kernel) (by decide +kernel) (by decide +kernel) (by decide +kernel) (by decide +kernel) (by unfold allDig; decide +kernel) (by decide +kernel) (by decide +kernel) n2
    have e : -wholeS (Txt.slice (T [45, 51]) (some (0 + 1)) (some (digEnd (T [45, 51]) (0 + 1))) ++ Str.ofString "") = -3 := by decide +kernel
    rw [e] at q
    exact q
  exact part_num (T [45, 51]) t1 (-3) 1 hr (by decide) (by decide +kernel) (by decide +kernel) news
theorem part_pc {ds : List Nat} {n : Nat} (N : NumL n ds) (hn : (n : Int) ≤ 1000) : PartIs w mean mg mb (T (ds ++ [37])) (min (max ((2 * (n : Int) * 255 + 100).fdiv 200) 0) 255) := by
  intro t1 news
  have l3 := N.len
  have q := part_pct (w := w) (mean := mean) (mg := mg) (mb := mb) (T (ds ++ [37])) t1 n (by rw [slice_front]; exact reads_num N) ⟨by omega, hn⟩ (by rw [T_len]; simp; omega) (by rw [slice_last, pctS_is]; exact T_eq rfl) news
  rw [fd _ _ (by decide)]
  rwa [show (2 * ((n : Int) * 255) + 100) / (2 * 100) = (2 * (n : Int) * 255 + 100) / 200 from by omega] at q
theorem reads_dot {ds : List Nat} {k e : Nat} (N : NumL k ds) (he : e ≤ 9) : ReadsAs w mean mg mb (T (ds ++ 46 :: [48 + e])) (fracT ((k : Int) * 10 + e) 10) (fracB ((k : Int) * 10 + e) 10) := by
  intro t1 news
  have l3 := N.len
  have nd : ¬ isD 46 := by unfold isD; omega
  have d1 : digEnd (T (ds ++ 46 :: [48 + e])) 0 = ((ds.length : Nat) : Int) := by
    have := digEnd_run (a := []) (ds := ds) (rest := 46 :: [48 + e]) N.dig (by intro c hc; cases hc; exact nd)
    simpa using this
  have d2 : digEnd (T (ds ++ 46 :: [48 + e])) (((ds.length : Nat) : Int) + 1) = ((ds.length + 2 : Nat) : Int) := by
    have := digEnd_run (a := ds ++ [46]) (ds := [48 + e]) (rest := []) (by intro c hc; rw [List.mem_singleton.mp hc]; unfold isD; omega) (by simp)
    simpa [Int.add_assoc] using this
  have s1 : Txt.slice (T (ds ++ 46 :: [48 + e])) (some 0) (some ((ds.length : Nat) : Int)) = T ds := by
    rw [show Txt.slice (T (ds ++ 46 :: [48 + e])) (some 0) (some ((ds.length : Nat) : Int)) = T (((ds ++ 46 :: [48 + e]).drop 0).take (ds.length - 0)) from slice_ss (i := 0) (by omega) (by simp)]
    simp
  have s2 : Txt.slice (T (ds ++ 46 :: [48 + e])) (some (((ds.length : Nat) : Int) + 1)) (some ((ds.length + 2 : Nat) : Int)) = T [48 + e] := by
    rw [show Txt.slice (T (ds ++ 46 :: [48 + e])) (some (((ds.length : Nat) : Int) + 1)) (some ((ds.length + 2 : Nat) : Int)) = T (((ds ++ 46 :: [48 + e]).drop (ds.length + 1)).take ((ds.length + 2) - (ds.length + 1))) from slice_ss (i := ds.length + 1) (j := ds.length + 2) (by omega) (by simp)]
    congr 1
    rw [show ds ++ 46 :: [48 + e] = (ds ++ [46]) ++ [48 + e] from by simp, List.drop_left' (by simp), show ds.length + 2 - (ds.length + 1) = 1 from by omega]
    rfl
  have ap : T ds ++ T [48 + e] = T (ds ++ [48 + e]) := T_app _ _
  have len : (T (ds ++ 46 :: [48 + e])).length = ds.length + 2 := by rw [T_len]; simp
  have dg : ∀ c ∈ ds ++ [48 + e], isD c := by
    intro c hc
    rcases List.mem_append.mp hc with h | h
    · exact N.dig c h
    · rw [List.mem_singleton.mp h]; unfold isD; omega
  have q := readdec_dot (w := w) (mean := mean) (mg := mg) (mb := mb) (T (ds ++ 46 :: [48 + e])) t1 (by rw [len]; omega) (first_not N.dig N.ne) (by rw [d1, len]; omega) (by rw [d1, dotS, oneOf_mid]; decide) (by
      rw [d1, emptyS]
      unfold Txt.item
      exact bne_iff_ne.mpr fun z => by
        have := congrArg (fun x : Str => x.cps.size) z
        simp at this)
    (by rw [d1, d2, len]) (by rw [d1, d2]; exact oneOf_end' (by simp)) (by rw [d1, d2, s2, T_len]; rfl) (by rw [d1, d2, s1, s2, ap]; exact dg) (by rw [d1, d2, s1, s2, ap, T_len]; simp; omega) (by rw [d1, d2, s1, s2, ap, emptyS]; exact T_ne (by simp)) news
  rw [d1, d2, s1, s2, ap] at q
  have v : wholeS (T (ds ++ [48 + e])) = (k : Int) * 10 + e := by
    show wholeN (ds ++ [48 + e]) 0 = _
    rw [wholeN_app, N.val]
    omega
  rwa [v] at q
theorem part_dot {ds : List Nat} {k e : Nat} (N : NumL k ds) (he : e ≤ 9) : PartIs w mean mg mb (T (ds ++ 46 :: [48 + e])) (min (max ((((k : Int) * 10 + e) + 5).fdiv 10) 0) 255) := by
  intro t1 news
  have l3 := N.len
  have hl : (Txt.slice (T (ds ++ 46 :: [48 + e])) (some (-1)) none == Str.ofString "%") = false := by
    rw [show ds ++ 46 :: [48 + e] = (ds ++ [46]) ++ [48 + e] from by simp, slice_last, pctS_is]
    refine T_ne ?_
    intro z
    injection z with z1 z2
    omega
  have q := part_num (w := w) (mean := mean) (mg := mg) (mb := mb) _ t1 _ _ (reads_dot N he) (fracB_pos _ 10 (by decide)) (by rw [T_len]; simp; omega) hl news
  rw [round_frac _ _ (by decide)] at q
  rw [fd _ _ (by decide)]
  rwa [show (2 * ((k : Int) * 10 + e) + 10) / (2 * 10) = ((k : Int) * 10 + e + 5) / 10 from by omega] at q
/-- a part's signs: none a comma, none a blank, none a capital -/
structure Plain (d : List Nat) : Prop where
  ne : d ≠ []
  len : d.length ≤ 6
  com : 44 ∉ d
  asc : ∀ c ∈ d, c < 128
  low : d.map lowN = d
  nsp : ∀ c ∈ d, Unicode.isSpace c = false
theorem sign_ok : ∀ c : Fin 128, (c.1 = 37 ∨ c.1 = 45 ∨ c.1 = 46 ∨ (48 ≤ c.1 ∧ c.1 ≤ 57)) → c.1 ≠ 44 ∧ lowN c.1 = c.1 ∧ Unicode.isSpace c.1 = false := by decide +kernel
theorem plain_of {d : List Nat} (hne : d ≠ []) (hl : d.length ≤ 6) (h : ∀ c ∈ d, c = 37 ∨ c = 45 ∨ c = 46 ∨ (48 ≤ c ∧ c ≤ 57)) : Plain d := by
  have sm : ∀ c ∈ d, c < 128 := fun c hc => by have := h c hc; omega
  refine ⟨hne, hl, fun hc => ?_, sm, ?_, fun c hc => (sign_ok ⟨c, sm c hc⟩ (h c hc)).2.2⟩
  · have := h 44 hc
    omega
  · conv => rhs; rw [← List.map_id d]
    exact List.map_congr_left fun c hc => (sign_ok ⟨c, sm c hc⟩ (h c hc)).2.1
structure Blanks (b : List Nat) : Prop where
  len : b.length ≤ 2
  all : ∀ c ∈ b, c = 32
theorem Blanks.sp {b : List Nat} (h : Blanks b) : ∀ c ∈ b, Unicode.isSpace c = true := fun c hc => by rw [h.all c hc]; decide +kernel
theorem Blanks.low {b : List Nat} (h : Blanks b) : b.map lowN = b := by
  conv => rhs; rw [← List.map_id b]
  exact List.map_congr_left fun c hc => by rw [h.all c hc]; rfl
theorem Blanks.com {b : List Nat} (h : Blanks b) : 44 ∉ b := fun hc => by have := h.all _ hc; omega
theorem Blanks.asc {b : List Nat} (h : Blanks b) : ∀ c ∈ b, c < 128 := fun c hc => by rw [h.all c hc]; decide
theorem head_in {d : List Nat} {c : Nat} (h : d.head? = some c) : c ∈ d := by
  cases d with
  | nil => cases h
  | cons x r => injection h with h; rw [h]; exact List.mem_cons_self
theorem strip_q {b d c : List Nat} (hb : Blanks b) (hc : Blanks c) (hd : Plain d) : Txt.strip (T (b ++ (d ++ c))) = T d :=
  strip_is hb.sp hc.sp (fun x hx => hd.nsp x (head_in hx)) (fun x hx => hd.nsp x (List.mem_of_getLast? hx)) hd.ne
theorem com_q {b d c : List Nat} (hb : Blanks b) (hc : Blanks c) (hd : Plain d) : 44 ∉ b ++ (d ++ c) := fun h => by
  rcases List.mem_append.mp h with h | h
  · exact hb.com h
  rcases List.mem_append.mp h with h | h
  · exact hd.com h
  · exact hc.com h
/-- the inner text of the brackets -/
noncomputable def inn (b1 d1 c1 b2 d2 c2 b3 d3 c3 : List Nat) : List Nat := (b1 ++ (d1 ++ c1)) ++ 44 :: ((b2 ++ (d2 ++ c2)) ++ 44 :: (b3 ++ (d3 ++ c3)))
theorem rgb_reads (pc : Bool) {pre b1 d1 c1 b2 d2 c2 b3 d3 c3 : List Nat} {v1 v2 v3 : Int} (hpre : pre.map lowN = [114, 103, 98, 40]) (hps : ∀ c ∈ pre, c < 128) (hph : ∀ c, pre.head? = some c → Unicode.isSpace c = false)
    (hb1 : Blanks b1) (hc1 : Blanks c1) (hb2 : Blanks b2) (hc2 : Blanks c2) (hb3 : Blanks b3) (hc3 : Blanks c3) (hd1 : Plain d1) (hd2 : Plain d2) (hd3 : Plain d3)
    (n1 : (Txt.slice (T d1) (some (-1)) none == Str.ofString "%") = pc) (n2 : (Txt.slice (T d2) (some (-1)) none == Str.ofString "%") = pc) (n3 : (Txt.slice (T d3) (some (-1)) none == Str.ofString "%") = pc)
    (r1 : PartIs w mean mg mb (T d1) v1) (r2 : PartIs w mean mg mb (T d2) v2) (r3 : PartIs w mean mg mb (T d3) v3) :
    ReadsTo w mean mg mb (T (pre ++ (inn b1 d1 c1 b2 d2 c2 b3 d3 c3 ++ [41]))) v1 v2 v3 := by
  intro t1 news
  have hpl : pre.length = 4 := by have := congrArg List.length hpre; simpa using this
  have il : (inn b1 d1 c1 b2 d2 c2 b3 d3 c3).length ≤ 32 := by
    unfold inn
    have := hb1.len; have := hb2.len; have := hb3.len; have := hc1.len; have := hc2.len; have := hc3.len
    have := hd1.len; have := hd2.len; have := hd3.len
    simp
    omega
  have ilow : (inn b1 d1 c1 b2 d2 c2 b3 d3 c3).map lowN = inn b1 d1 c1 b2 d2 c2 b3 d3 c3 := by
    unfold inn
    simp only [List.map_append, List.map_cons, hb1.low, hb2.low, hb3.low, hc1.low, hc2.low, hc3.low, hd1.low, hd2.low, hd3.low]
    rfl
  have iasc : ∀ c ∈ inn b1 d1 c1 b2 d2 c2 b3 d3 c3, c < 128 := by
    intro c hc
    unfold inn at hc
    simp only [List.mem_append, List.mem_cons] at hc
    rcases hc with (h | h | h) | h | (h | h | h) | h | h | h | h
    · exact hb1.asc c h
    · exact hd1.asc c h
    · exact hc1.asc c h
    · omega
    · exact hb2.asc c h
    · exact hd2.asc c h
    · exact hc2.asc c h
    · omega
    · exact hb3.asc c h
    · exact hd3.asc c h
    · exact hc3.asc c h
  have hlow := lowTo_T (p := []) (m := pre ++ (inn b1 d1 c1 b2 d2 c2 b3 d3 c3 ++ [41])) (q := []) (fun _ h => nomatch h) (fun _ h => nomatch h)
    (by
      intro c hc
      refine hph c ?_
      cases pre with
      | nil => simp at hpl
      | cons x r => exact hc)
    (by
      intro c hc
      rw [← List.append_assoc, List.getLast?_concat] at hc
      injection hc with hc
      rw [← hc]
      decide +kernel)
    (by simp) (by simp; omega) (by
      intro c hc
      rcases List.mem_append.mp hc with h | h
      · exact hps c h
      rcases List.mem_append.mp h with h | h
      · exact iasc c h
      · rw [List.mem_singleton.mp h]; decide)
  rw [List.nil_append, List.append_nil, List.map_append, hpre, List.map_append, ilow] at hlow
  have e41 : [41].map lowN = [41] := rfl
  rw [e41] at hlow
  generalize hi : inn b1 d1 c1 b2 d2 c2 b3 d3 c3 = I at *
  have s1 : Txt.slice (T ([114, 103, 98, 40] ++ (I ++ [41]))) none (some 1) = T [114] := slice_ns (j := 1) (by simp)
  have s4 : Txt.slice (T ([114, 103, 98, 40] ++ (I ++ [41]))) none (some 4) = T [114, 103, 98, 40] := slice_ns (j := 4) (by simp)
  have sl : Txt.slice (T ([114, 103, 98, 40] ++ (I ++ [41]))) (some (-1)) none = T [41] := by rw [← List.append_assoc]; exact slice_last _ _
  have sm : Txt.slice (T ([114, 103, 98, 40] ++ (I ++ [41]))) (some 4) (some (-1)) = T I := slice_mid [114, 103, 98, 40] I 41
  refine read_rgb _ _ t1 v1 v2 v3 (by rw [T_len]; simp; omega) hlow (by rw [T_len]; simp; omega) ?_ ?_ ?_ ?_ ?_ news
  · rw [noneS]; exact T_ne (by simp)
  · rw [s1, hashS]; exact T_ne (by simp)
  · rw [s4, rgbS]; exact T_eq rfl
  · rw [sl, closeS]; exact T_eq rfl
  · rw [sm]
    intro t2 n2'
    have ps : PSplit (T I) (T (b1 ++ (d1 ++ c1))) (T (b2 ++ (d2 ++ c2))) (T (b3 ++ (d3 ++ c3))) (T d1) (T d2) (T d3) :=
      ⟨by rw [← hi]; exact split3 (com_q hb1 hc1 hd1) (com_q hb2 hc2 hd2) (com_q hb3 hc3 hd3), strip_q hb1 hc1 hd1, strip_q hb2 hc2 hd2, strip_q hb3 hc3 hd3⟩
    have l1 := hd1.len
    have l2 := hd2.len
    have l3 := hd3.len
    have pf : PFacts pc (T d1) (T d2) (T d3) := ⟨by rw [T_len]; omega, by rw [T_len]; omega, by rw [T_len]; omega, n1, n2, n3⟩
    cases pc with
    | false => exact parts_num _ _ _ _ _ _ _ t2 v1 v2 v3 (by rw [T_len]; omega) ps pf r1 r2 r3 n2'
    | true => exact parts_pct _ _ _ _ _ _ _ t2 v1 v2 v3 (by rw [T_len]; omega) ps pf r1 r2 r3 n2'
structure BlankOk (x : Str) : Prop where
  is : x = Str.ofString "" ∨ x = Str.ofString " " ∨ x = Str.ofString "  "
def TenOk (n : Int) : Prop := 0 ≤ n ∧ n < 2600
def PctOk (n : Int) : Prop := 0 ≤ n ∧ n ≤ 101
noncomputable def tenS (n : Int) : Str := Str.ofString (toString (n.fdiv 10)) ++ Str.ofString "." ++ Str.ofString (toString (n.fmod 10))
noncomputable def pctS (n : Int) : Str := Str.ofString (toString n) ++ Str.ofString "%"
def NumOk (n : Int) : Prop := n = 0 ∨ n = 7 ∨ n = 255 ∨ n = 256 ∨ n = -3 ∨ n = 999 ∨ (0 ≤ n ∧ n < 256)
theorem NumOk.bnd {n : Int} (h : NumOk n) : -3 ≤ n ∧ n ≤ 999 := by
  unfold NumOk at h
  omega
theorem blank_is {x : Str} (h : BlankOk x) : ∃ B, x = T B ∧ Blanks B := by
  rcases h.is with rfl | rfl | rfl
  · exact ⟨[], emptyS, by decide, fun c hc => nomatch hc⟩
  · exact ⟨[32], by decide +kernel, by decide, by simp⟩
  · exact ⟨[32, 32], by decide +kernel, by decide, by simp⟩
theorem plain_num {ds : List Nat} {n : Nat} (N : NumL n ds) : Plain ds := plain_of N.ne (by have := N.len; omega) fun c hc => by
  have := N.dig c hc
  unfold isD at this
  omega
theorem num_part {n : Int} (h : NumOk n) : ∃ d, Str.ofString (toString n) = T d ∧ Plain d ∧ (Txt.slice (T d) (some (-1)) none == Str.ofString "%") = false ∧ PartIs w mean mg mb (T d) (min (max n 0) 255) := by
  by_cases h0 : 0 ≤ n
  · have hb := h.bnd
    obtain ⟨k, rfl⟩ := Int.eq_ofNat_of_zero_le h0
    have N := num_is (n := k) (by omega)
    exact ⟨numL k, num_text k, plain_num N, last_not N.dig N.ne, part_n N⟩
  · have e : n = -3 := by
      unfold NumOk at h
      omega
    subst e
    exact ⟨[45, 51], neg_text, plain_of (by simp) (by simp) (by intro c hc; simp at hc; omega), by decide +kernel, part_m3⟩
theorem hR1 : ∀ bl n1 n2 n3, BlankOk bl → NumOk n1 → NumOk n2 → NumOk n3 → ReadsTo w mean mg mb (Str.ofString "rgb(" ++ Txt.join (bl ++ Str.ofString "," ++ bl) [Str.ofString (toString n1), Str.ofString (toString n2), Str.ofString (toString n3)] ++ bl ++ Str.ofString ")") (min (max n1 0) 255) (min (max n2 0) 255) (min (max n3 0) 255) := by
  intro bl n1 n2 n3 hb h1 h2 h3
  obtain ⟨B, rfl, hB⟩ := blank_is hb
  obtain ⟨d1, e1, p1, l1, q1⟩ := num_part (w := w) (mean := mean) (mg := mg) (mb := mb) h1
  obtain ⟨d2, e2, p2, l2, q2⟩ := num_part (w := w) (mean := mean) (mg := mg) (mb := mb) h2
  obtain ⟨d3, e3, p3, l3, q3⟩ := num_part (w := w) (mean := mean) (mg := mg) (mb := mb) h3
  have nb : Blanks [] := ⟨by decide, fun c hc => nomatch hc⟩
  have q := rgb_reads (w := w) (mean := mean) (mg := mg) (mb := mb) false (pre := [114, 103, 98, 40]) (by decide) (by decide) (by intro c hc; cases hc; decide +kernel) nb hB hB hB hB hB p1 p2 p3 l1 l2 l3 q1 q2 q3
  rw [rgbS, commaS, closeS, e1, e2, e3, T_app, T_app, join_three_T, T_app, T_app, T_app]
  have e : ([114, 103, 98, 40] ++ (d1 ++ ((B ++ [44] ++ B) ++ (d2 ++ ((B ++ [44] ++ B) ++ d3)))) ++ B ++ [41]) = [114, 103, 98, 40] ++ (inn [] d1 B B d2 B B d3 B ++ [41]) := by
    unfold inn
    simp
  rw [e]
  exact q
theorem dig_text : ∀ e : Fin 10, numL e.1 = [48 + e.1] := by decide +kernel
theorem ten_part {n : Int} (h : TenOk n) : ∃ d, tenS n = T d ∧ Plain d ∧ (Txt.slice (T d) (some (-1)) none == Str.ofString "%") = false ∧ PartIs w mean mg mb (T d) (min (max ((n + 5).fdiv 10) 0) 255) := by
  obtain ⟨h0, h1⟩ := h
  obtain ⟨m, rfl⟩ := Int.eq_ofNat_of_zero_le h0
  have N := num_is (n := m / 10) (by omega)
  have he : m % 10 ≤ 9 := by omega
  have e1 : ((m : Nat) : Int).fdiv 10 = ((m / 10 : Nat) : Int) := by rw [fd _ _ (by decide)]; omega
  have e2 : ((m : Nat) : Int).fmod 10 = ((m % 10 : Nat) : Int) := by rw [fm _ _ (by decide)]; omega
  have tx : tenS ((m : Nat) : Int) = T (numL (m / 10) ++ 46 :: [48 + m % 10]) := by
    unfold tenS
    rw [e1, e2, num_text, num_text, dig_text ⟨m % 10, by omega⟩, dotS, T_app, T_app]
    simp
  have q := part_dot (w := w) (mean := mean) (mg := mg) (mb := mb) N he
  rw [show ((m / 10 : Nat) : Int) * 10 + ((m % 10 : Nat) : Int) = ((m : Nat) : Int) from by omega] at q
  refine ⟨_, tx, plain_of (by simp) (by have := N.len; simp; omega) ?_, ?_, q⟩
  · intro c hc
    simp only [List.mem_append, List.mem_cons, List.not_mem_nil, or_false] at hc
    rcases hc with h | rfl | rfl
    · have := N.dig c h
      unfold isD at this
      omega
    · omega
    · omega
  · rw [show numL (m / 10) ++ 46 :: [48 + m % 10] = (numL (m / 10) ++ [46]) ++ [48 + m % 10] from by simp, slice_last, pctS_is]
    refine T_ne ?_
    intro z
    injection z with z1 z2
    omega
theorem RGBS : Str.ofString "RGB(" = T [82, 71, 66, 40] := by decide +kernel
theorem hR2 : ∀ n1 n2 n3, TenOk n1 → TenOk n2 → TenOk n3 → ReadsTo w mean mg mb (Str.ofString "RGB(" ++ Txt.join (Str.ofString ",") [tenS n1, tenS n2, tenS n3] ++ Str.ofString ")") (min (max ((n1 + 5).fdiv 10) 0) 255) (min (max ((n2 + 5).fdiv 10) 0) 255) (min (max ((n3 + 5).fdiv 10) 0) 255) := by
  intro n1 n2 n3 h1 h2 h3
  obtain ⟨d1, e1, p1, l1, q1⟩ := ten_part (w := w) (mean := mean) (mg := mg) (mb := mb) h1
  obtain ⟨d2, e2, p2, l2, q2⟩ := ten_part (w := w) (mean := mean) (mg := mg) (mb := mb) h2
  obtain ⟨d3, e3, p3, l3, q3⟩ := ten_part (w := w) (mean := mean) (mg := mg) (mb := mb) h3
  have nb : Blanks [] := ⟨by decide, fun c hc => nomatch hc⟩
  have q := rgb_reads (w := w) (mean := mean) (mg := mg) (mb := mb) false (pre := [82, 71, 66, 40]) (by decide) (by decide) (by intro c hc; cases hc; decide +kernel) nb nb nb nb nb nb p1 p2 p3 l1 l2 l3 q1 q2 q3
  rw [RGBS, commaS, closeS, e1, e2, e3, join_three_T, T_app, T_app]
  have e : ([82, 71, 66, 40] ++ (d1 ++ ([44] ++ (d2 ++ ([44] ++ d3)))) ++ [41]) = [82, 71, 66, 40] ++ (inn [] d1 [] [] d2 [] [] d3 [] ++ [41]) := by
    unfold inn
    simp
  rw [e]
  exact q
theorem pct_part {n : Int} (h : PctOk n) : ∃ d, pctS n = T d ∧ Plain d ∧ (Txt.slice (T d) (some (-1)) none == Str.ofString "%") = true ∧ PartIs w mean mg mb (T d) (min (max ((2 * n * 255 + 100).fdiv 200) 0) 255) := by
  obtain ⟨h0, h1⟩ := h
  obtain ⟨m, rfl⟩ := Int.eq_ofNat_of_zero_le h0
  have N := num_is (n := m) (by omega)
  refine ⟨numL m ++ [37], ?_, plain_of (by simp) (by have := N.len; simp; omega) ?_, ?_, part_pc N (by omega)⟩
  · unfold pctS
    rw [num_text, pctS_is, T_app]
  · intro c hc
    simp only [List.mem_append, List.mem_cons, List.not_mem_nil, or_false] at hc
    rcases hc with h | rfl
    · have := N.dig c h
      unfold isD at this
      omega
    · omega
  · rw [slice_last, pctS_is]
    exact T_eq rfl
theorem comblS : Str.ofString ", " = T [44, 32] := by decide +kernel
theorem hR3 : ∀ n1 n2 n3, PctOk n1 → PctOk n2 → PctOk n3 → ReadsTo w mean mg mb (Str.ofString "rgb(" ++ Txt.join (Str.ofString ", ") [pctS n1, pctS n2, pctS n3] ++ Str.ofString ")") (min (max ((2 * n1 * 255 + 100).fdiv 200) 0) 255) (min (max ((2 * n2 * 255 + 100).fdiv 200) 0) 255) (min (max ((2 * n3 * 255 + 100).fdiv 200) 0) 255) := by
  intro n1 n2 n3 h1 h2 h3
  obtain ⟨d1, e1, p1, l1, q1⟩ := pct_part (w := w) (mean := mean) (mg := mg) (mb := mb) h1
  obtain ⟨d2, e2, p2, l2, q2⟩ := pct_part (w := w) (mean := mean) (mg := mg) (mb := mb) h2
  obtain ⟨d3, e3, p3, l3, q3⟩ := pct_part (w := w) (mean := mean) (mg := mg) (mb := mb) h3
  have nb : Blanks [] := ⟨by decide, fun c hc => nomatch hc⟩
  have b1 : Blanks [32] := ⟨by decide, by simp⟩
  have q := rgb_reads (w := w) (mean := mean) (mg := mg) (mb := mb) true (pre := [114, 103, 98, 40]) (by decide) (by decide) (by intro c hc; cases hc; decide +kernel) nb nb b1 nb b1 nb p1 p2 p3 l1 l2 l3 q1 q2 q3
  rw [rgbS, comblS, closeS, e1, e2, e3, join_three_T, T_app, T_app]
  have e : ([114, 103, 98, 40] ++ (d1 ++ ([44, 32] ++ (d2 ++ ([44, 32] ++ d3)))) ++ [41]) = [114, 103, 98, 40] ++ (inn [] d1 [] [32] d2 [] [32] d3 [] ++ [41]) := by
    unfold inn
    simp
  rw [e]
  exact q
theorem pct3 : ReadsTo w mean mg mb (Str.ofString "rgb(99%, 51%, 75%)") 252 130 191 := by
  have q := hR3 (w := w) (mean := mean) (mg := mg) (mb := mb) 99 51 75 (by unfold PctOk; decide) (by unfold PctOk; decide) (by unfold PctOk; decide)
  have e : Str.ofString "rgb(" ++ Txt.join (Str.ofString ", ") [pctS 99, pctS 51, pctS 75] ++ Str.ofString ")" = Str.ofString "rgb(99%, 51%, 75%)" := by decide +kernel
  rw [e] at q
  exact q
end

section
example : True := by
  k_with_none
  k_with "k_all" => (first | assumption | (intro p9 hp9; (repeat' (first | (with_reducible rename (∀ p : Addr × Obj, p ∈ (_ : List (Addr × Obj)) → @LT.lt Nat _ p.1 _) => hq9; first | replace hq9 := ltN (hq9 p9 hp9) | clear hq9) | (with_reducible rename AllLt _ _ => hq9; first | replace hq9 := ltN (ktn_ltOf hq9 p9 hp9) | clear hq9) | (with_reducible rename (_ ∧ AllLt _ _) => hq9; obtain ⟨hz9, hq9⟩ := hq9))); (refine neN ?_); omega))
  k_with "k_ne" => ((refine neN ?_; (try dsimp only); first | with_reducible assumption | exact Ne.symm (by with_reducible assumption) | exact ne_above (by with_reducible assumption) (by k_mem) | exact Ne.symm (ne_above (by with_reducible assumption) (by k_mem)) | exact ne_above1 (by with_reducible assumption) (by k_mem) | exact Ne.symm (ne_above1 (by with_reducible assumption) (by k_mem))))
  k_with "room" => (first | exact room_at (by with_reducible assumption) rfl rfl | exact room_at0 (by with_reducible assumption) rfl | exact room_at1 (by with_reducible assumption) rfl rfl)
  k_with "units" => (exact units_at (by with_reducible assumption) rfl rfl)
  k_with "x.p" => (refine' Prem.mk ?_ ?_ ?_ ?_ ?_ ?_ ?_ ?_; rotate_right 8; (focus k_asm); (focus k_asm); (focus k_asm); (focus (k_asm)); (focus k_asm); (focus (first | exact rfl | assumption)); (focus ktr_room); (focus ktr_units))
  k_with "x.pn" => (refine' Prem.mk ?_ ?_ ?_ ?_ ?_ ?_ ?_ ?_; rotate_right 8; (focus k_asm); (focus k_asm); (focus k_asm); (focus (first | k_asm | exact news_rot1 (by k_asm) | exact news_rot2 (by k_asm))); (focus k_asm); (focus (first | exact rfl | assumption)); (focus ktr_room); (focus ktr_units))
  k_with "x.pr" => (refine' Prem.mk ?_ ?_ ?_ ?_ ?_ ?_ ?_ ?_; rotate_right 8; (focus k_asm); (focus k_asm); (focus k_asm); (focus (first | k_asm | exact rot1 (by k_asm) | exact rot2 (by k_asm) | exact rot3 (by k_asm))); (focus k_asm); (focus (first | exact rfl | assumption)); (focus ktr_room); (focus ktr_units))
  k_with "x.t" => (intro t9 h9 tk9 F9 N9; (try dsimp only); (try k_fold))
  k_with "x.2" => (intro x9 t91 t92 h9 tk9 F9 N9 l9; (try k_lt l9); (try dsimp only); (try k_fold))
  k_with "x.3" => (intro x9 t91 t92 t93 h9 tk9 F9 N9 l9; (try k_lt l9); (try dsimp only); (try k_fold))
  k_with "x.4" => (intro x9 t91 t92 t93 t94 h9 tk9 F9 N9 l9; (try k_lt l9); (try dsimp only); (try k_fold))
  k_with "x.tt" => (intro t9 t91 h9 tk9 F9 N9; (try dsimp only); (try k_fold))
  k_with "x.take" => (intro d9 a9 b9 t9 t91 t92 n9 h9 tk9 hd0 hd1 ha9 hb9 hb99 F9 N9; (have hb9' := And.intro hb9 hb99); (try dsimp only); (try k_fold))
  k_with "x.r" => (intro e9 t9 ws9 h9 tk9 G9 FG9 R9 U9; (try dsimp only); (try k_fold))
  k_with "x.c" => (intro h9 tk9 g9 T9 F9 N9 B9 X9 P9 D9; (try dsimp only); (try k_fold))
  k_with "eval Name" => ((k_here; (first | ((with_reducible show wpAny _ _ (eval (Expr.Name _ _) (compEnvC _ _ _ _)) _ _ _); k_dflt (first | (name_kind "local"; refine' LCgL.ld_own ?_ ?_ ?_ ?_ ?_ ?_ ?_ ?_; rotate_right 8; rotate_left 6; (focus (first | kernel_rfl! | rfl)); rotate_right 6; rotate_left 5; (focus (rfl)); rotate_right 5; rotate_left 5; (focus (decide)); rotate_right 5; (focus (k_asm)); (focus (k_mem)); (focus (assumption)); (focus (assumption))) | (name_kind "globalImplicit"; first | (refine' LCgL.ld_global ?_ ?_ ?_ ?_ ?_ ?_ ?_ ?_ ?_; rotate_right 9; rotate_left 7; (focus (first | kernel_rfl! | rfl)); rotate_right 7; (focus (k_asm)); (focus (k_asm)); (focus (k_asm)); (focus (k_is)); rotate_left 1; (focus (rfl)); rotate_right 1; rotate_left 1; (focus (rfl)); rotate_right 1; rotate_left 1; (focus (decide)); rotate_right 1) | (refine' LCgL.ld_built ?_ ?_ ?_ ?_ ?_ ?_ ?_ ?_ ?_ ?_ ?_ ?_; rotate_right 12; rotate_left 10; (focus (first | kernel_rfl! | rfl)); rotate_right 10; (focus (k_asm)); (focus (k_asm)); (focus (k_asm)); (focus (k_is)); (focus (boot_by_name)); (focus (decide)); rotate_left 1; (focus (rfl)); rotate_right 1; rotate_left 1; (focus (rfl)); rotate_right 1; rotate_left 1; (focus (rfl)); rotate_right 1; rotate_left 1; (focus (decide)); rotate_right 1))) ) | ((fail_if_success (with_reducible show wpAny _ _ (eval (Expr.Name _ _) (compEnvC _ _ _ _)) _ _ _)); k_dflt (first | (name_kind "local"; refine' nameX_L ?_ ?_ ?_ ?_ ?_; rotate_right 5; rotate_left 4; (focus (first | kernel_rfl! | rfl)); rotate_right 4; rotate_left 3; (focus (rfl)); rotate_right 3; (focus (k_asm)); (focus (rfl)); k_whole) | (name_kind "globalImplicit"; first | (refine' nameX_K ?_ ?_ ?_ ?_ ?_ ?_ ?_; rotate_right 7; rotate_left 6; (focus (first | kernel_rfl! | rfl)); rotate_right 6; (focus (k_asm)); (focus (k_asm)); (focus (k_asm)); rotate_left 2; (focus (rfl)); rotate_right 2; (focus (k_is)); k_whole) | (refine' nameX_B ?_ ?_ ?_ ?_ ?_ ?_ ?_ ?_ ?_; rotate_right 9; rotate_left 8; (focus (first | kernel_rfl! | rfl)); rotate_right 8; (focus (k_asm)); (focus (k_asm)); (focus (k_asm)); rotate_left 4; (focus (rfl)); rotate_right 4; (focus (k_is)); (focus (boot_fast)); (focus (decide)); k_whole)) | (name_kind "cell"; refine' nameX_C ?_ ?_ ?_ ?_ ?_ ?_ ?_; rotate_right 7; rotate_left 6; (focus (first | kernel_rfl! | rfl)); rotate_right 6; rotate_left 5; (focus (rfl)); rotate_right 5; (focus (k_asm)); (focus (rfl)); (focus (k_mem)); (focus (k_asm)); k_whole))))))
  k_with "fold" => ((fail_if_success (fail_if_success k_fold)); (refine (let qk := _; let ek := _; (?_ : wpAny _ _ _ qk ek _))))
  k_with "isTrue BoolOp" => (k_here; k_extra "fold")
  k_with "isTrue Compare" => (k_here; k_extra "fold")
  k_with "isTrue UnaryOp" => (k_here; k_extra "fold")
  k_with "eval Call" => (k_here; k_extra "fold")
  k_with "eval Compare" => (k_here; k_extra "fold")
  k_with "eval BinOp" => (k_here; k_extra "fold")
  k_with "eval Tuple" => (k_here; k_extra "fold")
  k_with "eval List" => (k_here; k_extra "fold")
  trivial
example : True := by
  k_with "exec Assign cons ListComp" => (((with_reducible show wpAny _ _ (exec (Stmt.Assign _ (Expr.ListComp (Expr.Call (Expr.Name (Str.ofString "_law_one") _) _ _ _) _ _ _) _) _) _ _ _); refine stopHere ?_))
  trivial
example : True := by
  k_with "CompRest" => ((with_unfolding_all first | (refine LCg.CompRest.succ ?_; intro v' I' oI' C' oC' D' m' h' tk' E' hv' hC' hx' F' N' off' ne'; (first | lcg_open hv' | (obtain ⟨t9', hv9'⟩ := hv'; subst hv9')); replace ne' := apart3 ne') | refine LCg.CompRest.zero ?_))
  trivial
example : True := by
  k_with "CompEnd" => ((first | refine LCg.CompEnd.intro (by assumption) (by assumption) _ (fun p hp => hp) (by assumption) (by lcg_src) ?_ | refine LCg.CompEnd.intro (by assumption) (by assumption) _ (fun p hp => List.mem_cons_of_mem _ hp) (by assumption) (by lcg_src) ?_ | refine LCg.CompEnd.intro (by assumption) (by assumption) _ (fun p hp => List.mem_cons_of_mem _ (List.mem_cons_of_mem _ hp)) (by assumption) (by lcg_src) ?_))
  trivial
example : True := by
  k_with "FinE" => (((unfold LCg.FinE); intro D' h' tk' F' N' o1'; (try simp only [List.nil_append, List.cons_append] at N'); (try dsimp only)))
  trivial
example : True := by
  k_with "k_ne" => ((refine neN ?_; first | assumption | exact Ne.symm (by assumption) | exact Apart3.ic (by assumption) | exact Apart3.id (by assumption) | exact Apart3.cd (by assumption) | exact off3_i (by assumption) (by k_mem) | exact off3_c (by assumption) (by k_mem) | exact off3_d (by assumption) (by k_mem) | exact off1_d (by assumption) (by k_mem) | exact Ne.symm (off3_i (by assumption) (by k_mem)) | exact Ne.symm (off3_c (by assumption) (by k_mem)) | exact Ne.symm (off3_d (by assumption) (by k_mem)) | exact Ne.symm (off1_d (by assumption) (by k_mem))))
  trivial
example : True := by
  k_with "CompSrc" => ((k_here; k_dflt (refine LCg.CompSrc.ledger (by rfl) (by k_asm) (by k_asm) (by k_mem) (by first | size_fits | exact Nat.le_of_ble_eq_true rfl) ?_; intro g'; lcg_lit)))
  trivial
example : True := by
  k_with "CompSrc" => (((with_reducible show LCg.CompSrc _ _ _ _ _ _ _ (Expr.Call (Expr.Name (Str.ofString "_law_one") _) _ _ _) _ _ _ _ _ _); k_dflt (refine LCg.CompSrc.range (by rfl) (by k_asm) (by k_asm) (by assumption) (by first | decide | rfl) (by first | rfl | decide) (by first | size_fits | exact Nat.le_of_ble_eq_true rfl) ?_; intro g'); refine stopHere ?_))
  trivial
example : True := by
  k_with "CompRest" => (refine stopHere ?_)
  trivial
example : True := by
  k_with "call ref" => ((k_here; k_dflt (refine' callBy (take_head _ _ _ _ _ _ _ _ _ ?_ ?_ ?_ ?_) ?_ ?_; rotate_right 2; (focus (walk_at "x.pr")); (all_goals skip); rotate_right 4; (focus ((repeat' (first | assumption | refine List.forall_mem_cons.mpr ⟨?_, ?_⟩)); (all_goals (first | k_ne | (dsimp only; omega))))); (focus (k_asm)); (focus (k_asm)); (focus (omega)); walk_at "x.take")))
  trivial
example : True := by
  k_with "call ref" => ((k_here; k_dflt (refine' callBy (one_head _ _ _ _ _ _ _ _ _ _ ?_ ?_ ?_ ?_ ?_) ?_ ?_; rotate_right 2; (focus (walk_at "x.pr")); (all_goals skip); rotate_right 5; (focus ((repeat' (first | assumption | refine List.forall_mem_cons.mpr ⟨?_, ?_⟩)); (all_goals (first | k_ne | (dsimp only; omega))))); (focus (k_mem)); (focus (k_asm)); (focus (k_asm)); (focus (exact ⟨Nat.le_of_ble_eq_true rfl, Nat.le_of_ble_eq_true rfl⟩)); intro v9 a9 b9 t91 t92 n9 h9 tk9 hv9 ha9 hb9 hb99 F9 N9; (have hb9' := And.intro hb9 hb99); (try dsimp only); (try k_fold))))
  trivial
theorem BlankOk.len {x : Str} (h : BlankOk x) : x.length ≤ 2 := by
  rcases h.is with rfl | rfl | rfl <;> decide
theorem blank_of {v : Value} {t1 t2 t3 : Tok} (h : v ∈ [Value.str (Str.ofString "") t1, Value.str (Str.ofString " ") t2, Value.str (Str.ofString "  ") t3]) : ∃ x t, v = .str x t ∧ BlankOk x := by
  simp only [List.mem_cons, List.not_mem_nil, or_false] at h
  rcases h with rfl | rfl | rfl
  · exact ⟨_, _, rfl, ⟨.inl rfl⟩⟩
  · exact ⟨_, _, rfl, ⟨.inr (.inl rfl)⟩⟩
  · exact ⟨_, _, rfl, ⟨.inr (.inr rfl)⟩⟩
theorem TenOk.bnd {n : Int} (h : TenOk n) : 0 ≤ n ∧ n < 2600 := h
theorem PctOk.bnd {n : Int} (h : PctOk n) : 0 ≤ n ∧ n ≤ 101 := h
theorem readsto_at {x : Str} {r g b : Int} (h : ReadsTo w mean mg mb x r g b) (t1 : Tok) (news : List (Addr × Obj)) : CallOf w mean mg mb 226 [.str x t1] 11 news (fun h₀ L m s Q => Ret3 h₀ L m news s Q r g b) := h t1 news
theorem join_three {prog : Program} {A : Around} {E : Value → Shared → Prop} {s : Shared} {g : Heap} {L D : Addr} {x a b c : Str} {t ta tb tc : Tok} {news : List (Addr × Obj)} {Q : Value → Shared → Prop} (N : News g L s.heap news) (hm : (D, LCg.lst [.str a ta, .str b tb, .str c tc]) ∈ news)
    (hx : x.length ≤ 16) (h1 : a.length ≤ 20) (h2 : b.length ≤ 20) (h3 : c.length ≤ 20)
    (h : ∀ t' k, (Txt.join x [a, b, c]).length ≤ 200 → Q (.str (Txt.join x [a, b, c]) t') { s with toks := k }) : wpAny (model prog w) A (call (.builtin "str.join") [.str x t, .ref D]) Q E s :=
  join_listW (ys := [a, b, c]) (News.isList N hm) (.cons _ _ (.cons _ _ (.cons _ _ .nil))) hx (by simp only [List.map_cons, List.map_nil, List.sum_cons, List.sum_nil, List.length_cons, List.length_nil]; omega) fun t' k => h t' k (by rw [join3_len]; omega)
example : True := by
  k_with "call builtin:str.join" => ((k_here; k_dflt (refine' join_three ?_ ?_ ?_ ?_ ?_ ?_ ?_; rotate_right 7; (focus (k_asm)); (focus (k_mem)); (focus (first | omega | (have hc9 : (Str.ofString ",").length = 1 := (by decide +kernel); omega) | decide +kernel)); (focus (omega)); (focus (omega)); (focus (omega))); intro t9 k9 hj9))
  trivial
example : True := by
  k_with "call ref" => ((k_here; k_dflt (refine' callBy (readsto_at ?_ _ _) ?_ ?_; rotate_right 2; (focus (walk_at "x.p")); (all_goals skip); rotate_right 1; (focus (k_asm)); walk_at "x.3")))
  trivial
example : True := by
  k_with "call ref" => ((k_here; k_dflt (refine' callBy (cut_is _ _ _) ?_ ?_; rotate_right 2; (focus (walk_at "x.p")); (all_goals skip); walk_at "x.t")))
  trivial
set_option maxHeartbeats 8000000 in
theorem parts_right (a b : Int) (ta tb : Tok) (l : Addr) (n : Nat) (rest : List (Addr × Obj)) (hl : ∀ p ∈ rest, p.1 ≠ l) (ha : 0 ≤ a) (hb : 0 ≤ b ∧ b < 2147483647)
    (hR1 : ∀ bl n1 n2 n3, BlankOk bl → NumOk n1 → NumOk n2 → NumOk n3 → ReadsTo w mean mg mb (Str.ofString "rgb(" ++ Txt.join (bl ++ Str.ofString "," ++ bl) [Str.ofString (toString n1), Str.ofString (toString n2), Str.ofString (toString n3)] ++ bl ++ Str.ofString ")") (min (max n1 0) 255) (min (max n2 0) 255) (min (max n3 0) 255))
    (hR2 : ∀ n1 n2 n3, TenOk n1 → TenOk n2 → TenOk n3 → ReadsTo w mean mg mb (Str.ofString "RGB(" ++ Txt.join (Str.ofString ",") [tenS n1, tenS n2, tenS n3] ++ Str.ofString ")") (min (max ((n1 + 5).fdiv 10) 0) 255) (min (max ((n2 + 5).fdiv 10) 0) 255) (min (max ((n3 + 5).fdiv 10) 0) 255))
    (hR3 : ∀ n1 n2 n3, PctOk n1 → PctOk n2 → PctOk n3 → ReadsTo w mean mg mb (Str.ofString "rgb(" ++ Txt.join (Str.ofString ", ") [pctS n1, pctS n2, pctS n3] ++ Str.ofString ")") (min (max ((2 * n1 * 255 + 100).fdiv 200) 0) 255) (min (max ((2 * n2 * 255 + 100).fdiv 200) 0) 255) (min (max ((2 * n3 * 255 + 100).fdiv 200) 0) 255)) :
    CallOf w mean mg mb 278 [.ref l] 14 ((l, listOf #[.int a ta, .int b tb] n) :: rest) (fun h₀ L m s Q => ∀ a' b' t1 t2 n' h' tk', 0 ≤ a' → 0 ≤ b' → b' < 2147483647 → Fr h₀ L h' m → News h₀ L h' ((l, listOf #[.int a' t1, .int b' t2] n') :: rest) → Q (.bool true) {s with heap := h', toks := tk'}) := by
  dsimp only [CallOf]
  intro dp un gd cn cs a9 ccd cl outer A₀ base h₀ L m s Q E B F X N T hk hd9 hu9 hret
  suffices hz : (laid.heap_1 = laid.heap_1 → PySem.Challenge.rw_nu0021_01 = PySem.Challenge.rw_nu0021_01 → _) from hz rfl rfl
  k_fill
  intro _ _
  refine wpAny_call ?_
  k_dflt (refine' code_defC ?k1 ?k2 ?k3 ?k4 ?k5 ?kA ?kF ?kK ?k6 ?k7 ?k8 ?k9 ?kB ?kD ?_ ?c2 ?c3 ?c4; (case kA => exact rfl); (case kF => exact rfl); (case kK => assumption); (case k1 => k_asm); (case k2 => k_asm); (case k3 => k_asm); (case k4 => k_asm); (case k5 => k_asm); (case k6 => k_is); (case k7 => k_is); (case k8 => ktr_room); (case k9 => exact BindsTo.of_eq rfl); (case kB => exact rfl); (case kD => decide +kernel); (case c2 => exact rfl); (case c3 => exact rfl); (case c4 => exact rfl); k_whole; intro g' L' h' tk' cells' FG' F' N' Y' B' X' T' l1; (try k_lt l1); k_cells Y'; (try simp only [List.cons_append, List.nil_append] at N'); (try dsimp only); (try k_lift B'); (try k_fold))
  replace N' := rot1 N'
  k_steps
  refine Wrap.mk ?_
  (k_dflt (refine LCg.Assign_ListComp_U (F₀ := by k_asm) (by rfl) (by with_unfolding_all rfl) (by with_unfolding_all rfl) (by decide) (by rfl) (by decide) (by rfl) (by rfl) (by rfl) ?_)); (k_dflt lcg_toSrc); refine Wrap.mk ?_
  refine src_turns (fun y => ∃ n t, y = .int n t ∧ NumOk n) l ?_ (List.forall_mem_cons.mpr ⟨by first | k_ne | (dsimp only; omega), hl⟩) 3 ?_ 3 0 [] a b ta tb n rfl (by simp) ha hb
  · intro a b ta tb n ys I oI C oC D m₂ h tk E' ha hb hC F N off
    k_steps
    refine' SrcEnd.intro ?e11 ?e21 ?e31 ?e41 ?e51 ?e61
    case e51 => assumption
    case e41 => assumption
    case e21 => assumption
    case e31 => assumption
    case e61 => exact (fun p hp => by repeat (first | exact hp | refine List.mem_cons_of_mem _ ?_))
    rename_i hv9 _ _ _ _ _ _
    simp only [List.mem_cons, List.not_mem_nil, or_false] at hv9
    unfold NumOk
    rcases hv9 with rfl | rfl | rfl | rfl | rfl | rfl | rfl <;> exact ⟨_, _, rfl, by omega⟩
  · intro ys a b ta tb n hy hP ha hb
    obtain ⟨y1, y2, y3, rfl⟩ := three_of hy
    obtain ⟨n1, u1, rfl, c1⟩ := hP _ (List.Mem.head _)
    obtain ⟨n2, u2, rfl, c2⟩ := hP _ (List.Mem.tail _ (List.Mem.head _))
    obtain ⟨n3, u3, rfl, c3⟩ := hP _ (List.Mem.tail _ (List.Mem.tail _ (List.Mem.head _)))
    clear hP hy
    have q1 := c1.bnd
    have q2 := c2.bnd
    have q3 := c3.bnd
    k_steps
    rename Value => v9
    rename v9 ∈ _ => hv9
    obtain ⟨bl, tb9, rfl, hbl⟩ := blank_of hv9
    have hbl2 := hbl.len
    have hr := hR1 bl n1 n2 n3 hbl c1 c2 c3
    have z1 := numS_len c1.bnd
    have z2 := numS_len c2.bnd
    have z3 := numS_len c3.bnd
    k_steps
    refine Wrap.mk ?_
    dsimp only
    refine rest_any (fun v => ∃ n t, v = .int n t ∧ -3 ≤ n ∧ n ≤ 999) (fun v y => ∀ n t, v = .int n t → ∃ u, y = .str (Str.ofString (toString n)) u) ?hs1 ⟨_, _, rfl, q1⟩ ⟨_, _, rfl, q2⟩ ⟨_, _, rfl, q3⟩ ?ht1 ?hf1
    case hs1 => lcg_src
    case ht1 =>
      clear hr hR1 hR2 hR3 hbl c1 c2 c3 q1 q2 q3 z1 z2 z3
      intro m9 s9 nw9 v ys I oI C oC D m₂ h tk E' hv hC hx' F1 N1 off ap
      obtain ⟨n, t, rfl, hn⟩ := hv
      k_steps
      exact ItemEnd.intro (fun _ _ e => by cases e; exact ⟨_, rfl⟩) (by assumption) (by assumption)
    intro y1 y2 y3 r1 r2 r3
    obtain ⟨ua, rfl⟩ := r1 _ _ rfl
    obtain ⟨ub, rfl⟩ := r2 _ _ rfl
    obtain ⟨uc, rfl⟩ := r3 _ _ rfl
    clear r1 r2 r3
    k_steps
    clear z1 z2 z3
    refine Wrap.mk ?_
    dsimp only
    refine rest_any (fun v => ∃ n t, v = .int n t ∧ True) (fun v y => ∀ n t, v = .int n t → ∃ u, y = .int (min (max n 0) 255) u) ?hs2 ⟨_, _, rfl, trivial⟩ ⟨_, _, rfl, trivial⟩ ⟨_, _, rfl, trivial⟩ ?ht2 ?hf2
    case hs2 => lcg_src
    case ht2 =>
      clear hr hR1 hR2 hR3 hbl c1 c2 c3 q1 q2 q3 hbl2
      intro m9 s9 nw9 v ys I oI C oC D m₂ h tk E' hv hC hx' F1 N1 off ap
      obtain ⟨n, t, rfl, hn⟩ := hv
      k_steps
      exact ItemEnd.intro (fun _ _ e => by cases e; exact ⟨_, rfl⟩) (by assumption) (by assumption)
    intro y1 y2 y3 r1 r2 r3
    obtain ⟨ua, rfl⟩ := r1 _ _ rfl
    obtain ⟨ub, rfl⟩ := r2 _ _ rfl
    obtain ⟨uc, rfl⟩ := r3 _ _ rfl
    clear r1 r2 r3
    k_steps
    clear hr hbl2 q1 q2 q3
    refine Wrap.mk ?_
    with_reducible rename News _ _ _ _ => Nold
    replace Nold := pick2 (x := (l, listOf #[.int _ _, .int _ _] _)) (c := (L' + 1, _)) (rest := rest) Nold (by k_mem) (by k_mem) (fun p hp => by repeat (first | exact hp | refine List.mem_cons_of_mem _ ?_))
    (k_dflt (refine LCg.Assign_ListComp_U (F₀ := by k_asm) (by rfl) (by with_unfolding_all rfl) (by with_unfolding_all rfl) (by decide) (by rfl) (by decide) (by rfl) (by rfl) (by rfl) ?_)); (k_dflt lcg_toSrc); refine Wrap.mk ?_
    refine src_turns (fun y => ∃ n t, y = .int n t ∧ TenOk n) l ?_ (List.forall_mem_cons.mpr ⟨by first | k_ne | (dsimp only; omega), hl⟩) 3 ?_ 3 0 [] _ _ _ _ _ rfl (by simp) (by assumption) (by assumption)
    · intro a b ta tb n ys I oI C oC D m₂ h tk E' ha hb hC F N off
      k_steps
      refine' SrcEnd.intro ?e12 ?e22 ?e32 ?e42 ?e52 ?e62
      case e52 => assumption
      case e42 => assumption
      case e22 => assumption
      case e32 => assumption
      case e62 => exact (fun p hp => by repeat (first | exact hp | refine List.mem_cons_of_mem _ ?_))
      rename_i hv9 _ _ _ _ _ _
      simp only [List.mem_cons, List.not_mem_nil, or_false] at hv9
      unfold TenOk
      rcases hv9 with rfl | rfl | rfl | rfl | rfl | rfl | rfl <;> exact ⟨_, _, rfl, by omega⟩
    · intro ys a b ta tb n hy hP ha hb
      obtain ⟨y1, y2, y3, rfl⟩ := three_of hy
      obtain ⟨n1, u1, rfl, c1⟩ := hP _ (List.Mem.head _)
      obtain ⟨n2, u2, rfl, c2⟩ := hP _ (List.Mem.tail _ (List.Mem.head _))
      obtain ⟨n3, u3, rfl, c3⟩ := hP _ (List.Mem.tail _ (List.Mem.tail _ (List.Mem.head _)))
      clear hP hy
      have q1 := c1.bnd
      have q2 := c2.bnd
      have q3 := c3.bnd
      have hr := hR2 n1 n2 n3 c1 c2 c3
      dsimp only [tenS] at hr
      k_steps
      refine Wrap.mk ?_
      dsimp only
      refine rest_any (fun v => ∃ n t, v = .int n t ∧ 0 ≤ n ∧ n < 2600) (fun v y => ∀ n t, v = .int n t → ∃ u, y = .str (Str.ofString (toString (n.fdiv 10)) ++ Str.ofString "." ++ Str.ofString (toString (n.fmod 10))) u ∧ (Str.ofString (toString (n.fdiv 10)) ++ Str.ofString "." ++ Str.ofString (toString (n.fmod 10))).length ≤ 20) ?hs3 ⟨_, _, rfl, q1⟩ ⟨_, _, rfl, q2⟩ ⟨_, _, rfl, q3⟩ ?ht3 ?hf3
      case hs3 => lcg_src
      case ht3 =>
        clear hr hR1 hR2 hR3 c1 c2 c3 q1 q2 q3
        intro m9 s9 nw9 v ys I oI C oC D m₂ h tk E' hv hC hx' F1 N1 off ap
        obtain ⟨n, t, rfl, hn⟩ := hv
        have hpt : (Str.ofString ".").length = 1 := by decide +kernel
        have z1 := numS_len (n := n.fdiv 10) (by rw [fd _ _ (by decide)]; omega)
        have y1 := numS_len (n := n.fmod 10) (by rw [fm _ _ (by decide)]; omega)
        k_steps
        exact ItemEnd.intro (fun _ _ e => by cases e; exact ⟨_, rfl, by omega⟩) (by assumption) (by assumption)
      intro y1 y2 y3 r1 r2 r3
      obtain ⟨ua, rfl, zA⟩ := r1 _ _ rfl
      obtain ⟨ub, rfl, zB⟩ := r2 _ _ rfl
      obtain ⟨uc, rfl, zC⟩ := r3 _ _ rfl
      clear r1 r2 r3
      k_steps
      clear zA zB zC
      refine Wrap.mk ?_
      dsimp only
      refine rest_any (fun v => ∃ n t, v = .int n t ∧ True) (fun v y => ∀ n t, v = .int n t → ∃ u, y = .int (min (max ((n + 5).fdiv 10) 0) 255) u) ?hs4 ⟨_, _, rfl, trivial⟩ ⟨_, _, rfl, trivial⟩ ⟨_, _, rfl, trivial⟩ ?ht4 ?hf4
      case hs4 => lcg_src
      case ht4 =>
        clear hr hR1 hR2 hR3 c1 c2 c3 q1 q2 q3
        intro m9 s9 nw9 v ys I oI C oC D m₂ h tk E' hv hC hx' F1 N1 off ap
        obtain ⟨n, t, rfl, hn⟩ := hv
        k_steps
        exact ItemEnd.intro (fun _ _ e => by cases e; exact ⟨_, rfl⟩) (by assumption) (by assumption)
      intro y1 y2 y3 r1 r2 r3
      obtain ⟨ua, rfl⟩ := r1 _ _ rfl
      obtain ⟨ub, rfl⟩ := r2 _ _ rfl
      obtain ⟨uc, rfl⟩ := r3 _ _ rfl
      clear r1 r2 r3
      k_steps
      clear hr q1 q2 q3
      refine Wrap.mk ?_
      with_reducible rename News _ _ _ _ => Nold
      replace Nold := pick2 (x := (l, listOf #[.int _ _, .int _ _] _)) (c := (L' + 1, _)) (rest := rest) Nold (by k_mem) (by k_mem) (fun p hp => by repeat (first | exact hp | refine List.mem_cons_of_mem _ ?_))
      (k_dflt (refine LCg.Assign_ListComp_U (F₀ := by k_asm) (by rfl) (by with_unfolding_all rfl) (by with_unfolding_all rfl) (by decide) (by rfl) (by decide) (by rfl) (by rfl) (by rfl) ?_)); (k_dflt lcg_toSrc); refine Wrap.mk ?_
      refine src_turns (fun y => ∃ n t, y = .int n t ∧ PctOk n) l ?_ (List.forall_mem_cons.mpr ⟨by first | k_ne | (dsimp only; omega), hl⟩) 3 ?_ 3 0 [] _ _ _ _ _ rfl (by simp) (by assumption) (by assumption)
      · intro a b ta tb n ys I oI C oC D m₂ h tk E' ha hb hC F N off
        k_steps
        refine' SrcEnd.intro ?e13 ?e23 ?e33 ?e43 ?e53 ?e63
        case e53 => assumption
        case e43 => assumption
        case e23 => assumption
        case e33 => assumption
        case e63 => exact (fun p hp => by repeat (first | exact hp | refine List.mem_cons_of_mem _ ?_))
        rename_i hv9 _ _ _ _ _ _
        simp only [List.mem_cons, List.not_mem_nil, or_false] at hv9
        unfold PctOk
        rcases hv9 with rfl | rfl | rfl | rfl | rfl | rfl | rfl <;> exact ⟨_, _, rfl, by omega⟩
      · intro ys a b ta tb n hy hP ha hb
        obtain ⟨y1, y2, y3, rfl⟩ := three_of hy
        obtain ⟨n1, u1, rfl, c1⟩ := hP _ (List.Mem.head _)
        obtain ⟨n2, u2, rfl, c2⟩ := hP _ (List.Mem.tail _ (List.Mem.head _))
        obtain ⟨n3, u3, rfl, c3⟩ := hP _ (List.Mem.tail _ (List.Mem.tail _ (List.Mem.head _)))
        clear hP hy
        have q1 := c1.bnd
        have q2 := c2.bnd
        have q3 := c3.bnd
        have hr := hR3 n1 n2 n3 c1 c2 c3
        dsimp only [pctS] at hr
        k_steps
        refine Wrap.mk ?_
        dsimp only
        refine rest_any (fun v => ∃ n t, v = .int n t ∧ 0 ≤ n ∧ n ≤ 101) (fun v y => ∀ n t, v = .int n t → ∃ u, y = .str (Str.ofString (toString n) ++ Str.ofString "%") u ∧ (Str.ofString (toString n) ++ Str.ofString "%").length ≤ 20) ?hs5 ⟨_, _, rfl, q1⟩ ⟨_, _, rfl, q2⟩ ⟨_, _, rfl, q3⟩ ?ht5 ?hf5
        case hs5 => lcg_src
        case ht5 =>
          clear hr hR1 hR2 hR3 c1 c2 c3 q1 q2 q3
          intro m9 s9 nw9 v ys I oI C oC D m₂ h tk E' hv hC hx' F1 N1 off ap
          obtain ⟨n, t, rfl, hn⟩ := hv
          have hpt : (Str.ofString "%").length = 1 := by decide +kernel
          have z1 := numS_len (n := n) (by omega)
          k_steps
          exact ItemEnd.intro (fun _ _ e => by cases e; exact ⟨_, rfl, by omega⟩) (by assumption) (by assumption)
        intro y1 y2 y3 r1 r2 r3
        obtain ⟨ua, rfl, zA⟩ := r1 _ _ rfl
        obtain ⟨ub, rfl, zB⟩ := r2 _ _ rfl
        obtain ⟨uc, rfl, zC⟩ := r3 _ _ rfl
        clear r1 r2 r3
        k_steps
        clear zA zB zC
        refine Wrap.mk ?_
        dsimp only
        refine rest_any (fun v => ∃ n t, v = .int n t ∧ True) (fun v y => ∀ n t, v = .int n t → ∃ u, y = .int (min (max ((2 * n * 255 + 100).fdiv 200) 0) 255) u) ?hs6 ⟨_, _, rfl, trivial⟩ ⟨_, _, rfl, trivial⟩ ⟨_, _, rfl, trivial⟩ ?ht6 ?hf6
        case hs6 => lcg_src
        case ht6 =>
          clear hr hR1 hR2 hR3 c1 c2 c3 q1 q2 q3
          intro m9 s9 nw9 v ys I oI C oC D m₂ h tk E' hv hC hx' F1 N1 off ap
          obtain ⟨n, t, rfl, hn⟩ := hv
          k_steps
          exact ItemEnd.intro (fun _ _ e => by cases e; exact ⟨_, rfl⟩) (by assumption) (by assumption)
        intro y1 y2 y3 r1 r2 r3
        obtain ⟨ua, rfl⟩ := r1 _ _ rfl
        obtain ⟨ub, rfl⟩ := r2 _ _ rfl
        obtain ⟨uc, rfl⟩ := r3 _ _ rfl
        clear r1 r2 r3
        k_steps
        with_reducible rename News _ _ _ _ => Nend
        refine' hret _ _ _ _ _ _ _ ?zz1 ?zz2 ?zz3 ?zz4 ?zz5
        case zz4 => assumption
        case zz5 => exact cb_drop Nend (List.forall_mem_cons.mpr ⟨by k_mem, fun p hp => by repeat (first | exact hp | refine List.mem_cons_of_mem _ ?_)⟩)
        case zz1 => assumption
        case zz2 => exact hb.1
        case zz3 => exact hb.2
end

section
example : True := by
  k_with_none
  k_with "k_all" => (first | assumption | (intro p9 hp9; (repeat' (first | (with_reducible rename (∀ p : Addr × Obj, p ∈ (_ : List (Addr × Obj)) → @LT.lt Nat _ p.1 _) => hq9; first | replace hq9 := ltN (hq9 p9 hp9) | clear hq9) | (with_reducible rename AllLt _ _ => hq9; first | replace hq9 := ltN (ktn_ltOf hq9 p9 hp9) | clear hq9) | (with_reducible rename (_ ∧ AllLt _ _) => hq9; obtain ⟨hz9, hq9⟩ := hq9))); (refine neN ?_); omega))
  k_with "k_ne" => ((refine neN ?_; (try dsimp only); first | with_reducible assumption | exact Ne.symm (by with_reducible assumption) | exact ne_above (by with_reducible assumption) (by k_mem) | exact Ne.symm (ne_above (by with_reducible assumption) (by k_mem)) | exact ne_above1 (by with_reducible assumption) (by k_mem) | exact Ne.symm (ne_above1 (by with_reducible assumption) (by k_mem))))
  k_with "room" => (first | exact room_at (by with_reducible assumption) rfl rfl | exact room_at0 (by with_reducible assumption) rfl | exact room_at1 (by with_reducible assumption) rfl rfl)
  k_with "units" => (exact units_at (by with_reducible assumption) rfl rfl)
  k_with "x.p" => (refine' Prem.mk ?_ ?_ ?_ ?_ ?_ ?_ ?_ ?_; rotate_right 8; (focus k_asm); (focus k_asm); (focus k_asm); (focus (k_asm)); (focus k_asm); (focus (first | exact rfl | assumption)); (focus ktr_room); (focus ktr_units))
  k_with "x.pn" => (refine' Prem.mk ?_ ?_ ?_ ?_ ?_ ?_ ?_ ?_; rotate_right 8; (focus k_asm); (focus k_asm); (focus k_asm); (focus (first | k_asm | exact news_rot1 (by k_asm) | exact news_rot2 (by k_asm))); (focus k_asm); (focus (first | exact rfl | assumption)); (focus ktr_room); (focus ktr_units))
  k_with "x.pr" => (refine' Prem.mk ?_ ?_ ?_ ?_ ?_ ?_ ?_ ?_; rotate_right 8; (focus k_asm); (focus k_asm); (focus k_asm); (focus (first | k_asm | exact rot1 (by k_asm) | exact rot2 (by k_asm) | exact rot3 (by k_asm))); (focus k_asm); (focus (first | exact rfl | assumption)); (focus ktr_room); (focus ktr_units))
  k_with "x.t" => (intro t9 h9 tk9 F9 N9; (try dsimp only); (try k_fold))
  k_with "x.2" => (intro x9 t91 t92 h9 tk9 F9 N9 l9; (try k_lt l9); (try dsimp only); (try k_fold))
  k_with "x.3" => (intro x9 t91 t92 t93 h9 tk9 F9 N9 l9; (try k_lt l9); (try dsimp only); (try k_fold))
  k_with "x.4" => (intro x9 t91 t92 t93 t94 h9 tk9 F9 N9 l9; (try k_lt l9); (try dsimp only); (try k_fold))
  k_with "x.tt" => (intro t9 t91 h9 tk9 F9 N9; (try dsimp only); (try k_fold))
  k_with "x.take" => (intro d9 a9 b9 t9 t91 t92 n9 h9 tk9 hd0 hd1 ha9 hb9 hb99 F9 N9; (have hb9' := And.intro hb9 hb99); (try dsimp only); (try k_fold))
  k_with "x.r" => (intro e9 t9 ws9 h9 tk9 G9 FG9 R9 U9; (try dsimp only); (try k_fold))
  k_with "x.c" => (intro h9 tk9 g9 T9 F9 N9 B9 X9 P9 D9; (try dsimp only); (try k_fold))
  k_with "eval Name" => ((k_here; (first | ((with_reducible show wpAny _ _ (eval (Expr.Name _ _) (compEnvC _ _ _ _)) _ _ _); k_dflt (first | (name_kind "local"; refine' LCgL.ld_own ?_ ?_ ?_ ?_ ?_ ?_ ?_ ?_; rotate_right 8; rotate_left 6; (focus (first | kernel_rfl! | rfl)); rotate_right 6; rotate_left 5; (focus (rfl)); rotate_right 5; rotate_left 5; (focus (decide)); rotate_right 5; (focus (k_asm)); (focus (k_mem)); (focus (assumption)); (focus (assumption))) | (name_kind "globalImplicit"; first | (refine' LCgL.ld_global ?_ ?_ ?_ ?_ ?_ ?_ ?_ ?_ ?_; rotate_right 9; rotate_left 7; (focus (first | kernel_rfl! | rfl)); rotate_right 7; (focus (k_asm)); (focus (k_asm)); (focus (k_asm)); (focus (k_is)); rotate_left 1; (focus (rfl)); rotate_right 1; rotate_left 1; (focus (rfl)); rotate_right 1; rotate_left 1; (focus (decide)); rotate_right 1) | (refine' LCgL.ld_built ?_ ?_ ?_ ?_ ?_ ?_ ?_ ?_ ?_ ?_ ?_ ?_; rotate_right 12; rotate_left 10; (focus (first | kernel_rfl! | rfl)); rotate_right 10; (focus (k_asm)); (focus (k_asm)); (focus (k_asm)); (focus (k_is)); (focus (boot_by_name)); (focus (decide)); rotate_left 1; (focus (rfl)); rotate_right 1; rotate_left 1; (focus (rfl)); rotate_right 1; rotate_left 1; (focus (rfl)); rotate_right 1; rotate_left 1; (focus (decide)); rotate_right 1))) ) | ((fail_if_success (with_reducible show wpAny _ _ (eval (Expr.Name _ _) (compEnvC _ _ _ _)) _ _ _)); k_dflt (first | (name_kind "local"; refine' nameX_L ?_ ?_ ?_ ?_ ?_; rotate_right 5; rotate_left 4; (focus (first | kernel_rfl! | rfl)); rotate_right 4; rotate_left 3; (focus (rfl)); rotate_right 3; (focus (k_asm)); (focus (rfl)); k_whole) | (name_kind "globalImplicit"; first | (refine' nameX_K ?_ ?_ ?_ ?_ ?_ ?_ ?_; rotate_right 7; rotate_left 6; (focus (first | kernel_rfl! | rfl)); rotate_right 6; (focus (k_asm)); (focus (k_asm)); (focus (k_asm)); rotate_left 2; (focus (rfl)); rotate_right 2; (focus (k_is)); k_whole) | (refine' nameX_B ?_ ?_ ?_ ?_ ?_ ?_ ?_ ?_ ?_; rotate_right 9; rotate_left 8; (focus (first | kernel_rfl! | rfl)); rotate_right 8; (focus (k_asm)); (focus (k_asm)); (focus (k_asm)); rotate_left 4; (focus (rfl)); rotate_right 4; (focus (k_is)); (focus (boot_fast)); (focus (decide)); k_whole)) | (name_kind "cell"; refine' nameX_C ?_ ?_ ?_ ?_ ?_ ?_ ?_; rotate_right 7; rotate_left 6; (focus (first | kernel_rfl! | rfl)); rotate_right 6; rotate_left 5; (focus (rfl)); rotate_right 5; (focus (k_asm)); (focus (rfl)); (focus (k_mem)); (focus (k_asm)); k_whole))))))
  k_with "fold" => ((fail_if_success (fail_if_success k_fold)); (refine (let qk := _; let ek := _; (?_ : wpAny _ _ _ qk ek _))))
  k_with "isTrue BoolOp" => (k_here; k_extra "fold")
  k_with "isTrue Compare" => (k_here; k_extra "fold")
  k_with "isTrue UnaryOp" => (k_here; k_extra "fold")
  k_with "eval Call" => (k_here; k_extra "fold")
  k_with "eval Compare" => (k_here; k_extra "fold")
  k_with "eval BinOp" => (k_here; k_extra "fold")
  k_with "eval Tuple" => (k_here; k_extra "fold")
  k_with "eval List" => (k_here; k_extra "fold")
  trivial
theorem off_src {g h : Heap} {L l : Addr} {o : Obj} {all : List (Addr × Obj)} (N : News g L h ((l, o) :: all)) (hs : ∀ p ∈ all, p.2 ≠ o ∨ p.1 ≠ l) : ∀ p ∈ all, p.1 ≠ l := fun p hp z => by
  rcases hs p hp with q | q
  · have h1 := (N _ (List.Mem.head _)).1
    have h2 := (N p (List.mem_cons_of_mem _ hp)).1
    dsimp only at h1
    rw [z, h1] at h2
    exact q (Option.some.inj h2).symm
  · exact q z
theorem fin_src {h₀ h' : Heap} {L l : Addr} {m : Str → Option Value} {s : Shared} {Q : Value → Shared → Prop} {v : Value} {tk' : Nat} {a b : Int} {t1 t2 : Tok} {n : Nat} {all rest : List (Addr × Obj)}
    (hret : ∀ a' b' t1 t2 n' h' tk', 0 ≤ a' → 0 ≤ b' → b' < 2147483647 → Fr h₀ L h' m → News h₀ L h' ((l, listOf #[.int a' t1, .int b' t2] n') :: rest) → Q v {s with heap := h', toks := tk'})
    (F : Fr h₀ L h' m) (N : News h₀ L h' all) (hm : (l, listOf #[.int a t1, .int b t2] n) ∈ all) (hr : ∀ p ∈ rest, p ∈ all) (ha : 0 ≤ a) (hb : 0 ≤ b ∧ b < 2147483647) : Q v {s with heap := h', toks := tk'} :=
  hret a b t1 t2 n h' tk' ha hb.1 hb.2 F (pick1 N hm hr)
/-- what stands behind an item of the table of names -/
structure NamedAt (w : World) (mean : ExcName → Option Value) (mg mb : Str → Option Value) (all : List (Addr × Obj)) (v : Value) : Prop where
  is : (∃ y z nm r g b tn tr tg tb, v = .ref y ∧ (y, tupO [.str nm tn, .ref z]) ∈ all ∧ (z, tupO [.int r tr, .int g tg, .int b tb]) ∈ all ∧ nm.length ≤ 32 ∧ ReadsTo w mean mg mb (Str.ofString " " ++ nm) r g b) ∨
    (∃ y tn, v = .ref y ∧ (y, tupO [.str (Str.ofString "rebecca") tn, .none]) ∈ all)
theorem NamedAt.told {all : List (Addr × Obj)} {y z : Addr} {nm : Str} {r g b : Int} {tn tr tg tb : Tok} (h1 : (y, tupO [.str nm tn, .ref z]) ∈ all) (h2 : (z, tupO [.int r tr, .int g tg, .int b tb]) ∈ all)
    (hl : nm.length ≤ 32) (e : ReadsTo w mean mg mb (Str.ofString " " ++ nm) r g b) : NamedAt w mean mg mb all (.ref y) := ⟨.inl ⟨_, _, _, _, _, _, _, _, _, _, rfl, h1, h2, hl, e⟩⟩
theorem NamedAt.odd {all : List (Addr × Obj)} {y : Addr} {tn : Tok} (h1 : (y, tupO [.str (Str.ofString "rebecca") tn, .none]) ∈ all) : NamedAt w mean mg mb all (.ref y) := ⟨.inr ⟨_, _, rfl, h1⟩⟩
theorem NamedAt.mono {all all' : List (Addr × Obj)} {v : Value} (H : NamedAt w mean mg mb all v) (s : ∀ p ∈ all, p ∈ all') : NamedAt w mean mg mb all' v := by
  rcases H.is with ⟨y, z, nm, r, g', b, tn, tr, tg, tb, rfl, h1, h2, hl, e⟩ | ⟨y, tn, rfl, h1⟩
  · exact .told (s _ h1) (s _ h2) hl e
  · exact .odd (s _ h1)
/-- all items of the table told so far -/
noncomputable def NamedAll (w : World) (mean : ExcName → Option Value) (mg mb : Str → Option Value) (all : List (Addr × Obj)) : List Value → Prop
  | [] => True
  | v :: r => NamedAt w mean mg mb all v ∧ NamedAll w mean mg mb all r
theorem NamedAll.add {all all' : List (Addr × Obj)} {ns : List Value} (s : ∀ p ∈ all, p ∈ all') (N : NamedAll w mean mg mb all' ns) : ∀ {vs : List Value}, NamedAll w mean mg mb all vs → NamedAll w mean mg mb all' (vs ++ ns)
  | [], _ => N
  | _ :: _, ⟨a, b⟩ => ⟨a.mono s, NamedAll.add s N b⟩
theorem NamedAll.mem {all : List (Addr × Obj)} {v : Value} : ∀ {vs : List Value}, NamedAll w mean mg mb all vs → v ∈ vs → NamedAt w mean mg mb all v
  | _ :: _, ⟨a, b⟩, h => by
    rcases List.mem_cons.mp h with rfl | h
    · exact a
    · exact NamedAll.mem b h
theorem NamedAt.off {all : List (Addr × Obj)} {v : Value} {g h : Heap} {L l : Addr} {vx : Array Value} {n : Nat} (N : News g L h all) (hx : (l, listOf vx n) ∈ all) (H : NamedAt w mean mg mb all v) : NamedAt w mean mg mb (all.filter fun p => p.1 != l) v := by
  have ne : ∀ y ws, (y, tupO ws) ∈ all → (y, tupO ws) ∈ all.filter fun p => p.1 != l := fun y ws hy => by
    refine List.mem_filter.mpr ⟨hy, ?_⟩
    simp only [bne_iff_ne, ne_eq]
    intro e
    have h1 := (N _ hx).1
    have h2 := (N _ hy).1
    dsimp only at h1 h2
    rw [e, h1] at h2
    exact absurd (Value.type.inj (congrArg Obj.cls (Option.some.inj h2))) (by decide)
  rcases H.is with ⟨y, z, nm, r, g', b, tn, tr, tg, tb, rfl, h1, h2, hl, e⟩ | ⟨y, tn, rfl, h1⟩
  · exact .told (ne _ _ h1) (ne _ _ h2) hl e
  · exact .odd (ne _ _ h1)
theorem NamedAll.off {all : List (Addr × Obj)} {g h : Heap} {L l : Addr} {vx : Array Value} {n : Nat} (N : News g L h all) (hx : (l, listOf vx n) ∈ all) : ∀ {vs : List Value}, NamedAll w mean mg mb all vs → NamedAll w mean mg mb (all.filter fun p => p.1 != l) vs
  | [], _ => trivial
  | _ :: _, ⟨a, b⟩ => ⟨a.off N hx, NamedAll.off N hx b⟩
theorem pack {all rest : List (Addr × Obj)} {vs : List Value} {g h : Heap} {L D l : Addr} {vx : Array Value} {n : Nat} (hl : ∀ p ∈ rest, p.1 ≠ l) (N : News g L h all) (hD : (D, listOf vs.toArray 0) ∈ all) (hx : (l, listOf vx n) ∈ all) (hr : ∀ p ∈ rest, p ∈ all) (H : NamedAll w mean mg mb all vs) :
    ∃ K, News g L h ((D, listOf vs.toArray 0) :: (l, listOf vx n) :: K) ∧ NamedAll w mean mg mb K vs ∧ (∀ p ∈ rest, p ∈ K) ∧ ∀ p ∈ K, p.1 ≠ l := by
  refine ⟨all.filter fun p => p.1 != l, fun p hp => ?_, H.off N hx, fun p hp => List.mem_filter.mpr ⟨hr p hp, by simpa using hl p hp⟩, fun p hp => by simpa using (List.mem_filter.mp hp).2⟩
  rcases List.mem_cons.mp hp with rfl | hp
  · exact N _ hD
  rcases List.mem_cons.mp hp with rfl | hp
  · exact N _ hx
  · exact N _ (List.mem_filter.mp hp).1
/-- a row of the table is behind: the ledger is packed -/
structure Packed : Prop where
theorem NamedAt.out {all rest : List (Addr × Obj)} {v : Value} {g h : Heap} {L : Addr} {x : Addr × Obj} (N : News g L h all) (hx : x ∈ all) (hr : ∀ p ∈ rest, p ∈ all) (H : NamedAt w mean mg mb all v) :
    (∃ y z nm r g' b tn tr tg tb, v = .ref y ∧ News g L h ((y, tupO [.str nm tn, .ref z]) :: (z, tupO [.int r tr, .int g' tg, .int b tb]) :: x :: rest) ∧ nm.length ≤ 32 ∧ ReadsTo w mean mg mb (Str.ofString " " ++ nm) r g' b) ∨
    (∃ y tn, v = .ref y ∧ News g L h ((y, tupO [.str (Str.ofString "rebecca") tn, .none]) :: x :: rest)) := by
  rcases H.is with ⟨y, z, nm, r, g', b, tn, tr, tg, tb, rfl, h1, h2, hl, e⟩ | ⟨y, tn, rfl, h1⟩
  · refine .inl ⟨y, z, nm, r, g', b, tn, tr, tg, tb, rfl, fun p hp => ?_, hl, e⟩
    rcases List.mem_cons.mp hp with rfl | hp
    · exact N _ h1
    rcases List.mem_cons.mp hp with rfl | hp
    · exact N _ h2
    rcases List.mem_cons.mp hp with rfl | hp
    · exact N _ hx
    · exact N _ (hr p hp)
  · refine .inr ⟨y, tn, rfl, fun p hp => ?_⟩
    rcases List.mem_cons.mp hp with rfl | hp
    · exact N _ h1
    rcases List.mem_cons.mp hp with rfl | hp
    · exact N _ hx
    · exact N _ (hr p hp)
example : True := by
  k_with "call ref" => ((k_here; k_dflt (refine' callBy (one_head _ _ _ _ _ _ _ _ _ _ ?_ ?_ ?_ ?_ ?_) ?_ ?_; rotate_right 2; (focus (walk_at "x.p")); (all_goals skip); rotate_right 5; (focus (k_asm)); (focus (k_mem)); (focus (k_asm)); (focus (k_asm)); (focus (exact ⟨Nat.le_of_ble_eq_true rfl, Nat.le_of_ble_eq_true rfl⟩)); intro v9 a9 b9 t91 t92 n9 h9 tk9 hv9 ha9 hb9 hb99 F9 N9; (have hb9' := And.intro hb9 hb99); refine stopHere ?_; (try dsimp only); (try k_fold))))
  trivial
example : True := by
  k_with "call ref" => ((k_here; k_dflt (refine' callByT (refused_is _ _ ?_ _) ?_ ?_ ?_ ?_ ?_; rotate_right 5; (focus (walk_at "x.p")); (focus assumption); (focus assumption); (focus assumption); (all_goals skip); rotate_right 1; (focus (k_asm)); walk_at "x.c")))
  trivial
example : True := by
  k_with "call ref" => ((k_here; k_dflt (refine' callBy (readsto_at ?_ _ _) ?_ ?_; rotate_right 2; (focus (walk_at "x.p")); (all_goals skip); rotate_right 1; (focus (k_asm)); walk_at "x.3")))
  trivial
/-- the rows of the table told so far, upon a ledger -/
structure Rows (w : World) (mean : ExcName → Option Value) (mg mb : Str → Option Value) (base K : List (Addr × Obj)) (vs : List Value) : Prop where
  sub : ∀ p ∈ base, p ∈ K
  all : NamedAll w mean mg mb K vs
theorem Rows.start {base : List (Addr × Obj)} {vs : List Value} {K : List (Addr × Obj)} (H : NamedAll w mean mg mb K vs) (s : ∀ p ∈ K, p ∈ base) : Rows w mean mg mb base base vs :=
  ⟨fun _ h => h, by have := NamedAll.add (w := w) (mean := mean) (mg := mg) (mb := mb) (ns := []) s trivial H; rwa [List.append_nil] at this⟩
theorem Rows.add {base K K' : List (Addr × Obj)} {vs : List Value} {v : Value} (R : Rows w mean mg mb base K vs) (s : ∀ p ∈ K, p ∈ K') (a : NamedAt w mean mg mb K' v) : Rows w mean mg mb base K' (vs ++ [v]) :=
  ⟨fun p hp => s p (R.sub p hp), NamedAll.add (ns := [v]) s ⟨a, trivial⟩ R.all⟩
section
variable {A : Around} {E : Value → Shared → Prop} {s : Shared} {g : Heap} {L : Addr} {m : Str → Option Value} {env : Env} {base K : List (Addr × Obj)} {vs : List Value} {Q : Value → Shared → Prop} {nm : Str} {r c b : Int} {k0 k1 k2 k3 k4 k5 : Nat} {p0 p1 p2 p3 p4 p5 : Pos}
set_option maxHeartbeats 4000000 in
/-- a row of the table is made -/
theorem row_made (X : (laid.heap_1 w.params).In g) (F : Fr g L s.heap m) (N : News g L s.heap K) (R : Rows w mean mg mb base K vs) (e : ReadsTo w mean mg mb (Str.ofString " " ++ nm) r c b) (hl : nm.length ≤ 32)
    (h : ∀ y h' tk' K', Fr g L h' m → News g L h' K' → Rows w mean mg mb base K' (vs ++ [.ref y]) → Q (.ref y) { s with heap := h', toks := tk' }) :
    wpAny (model PySem.Challenge.rw_nu0021_01.row.prog w) A (eval (.Tuple [.Constant (.str nm) k0 p0, .Tuple [.Constant (.int r) k1 p1, .Constant (.int c) k2 p2, .Constant (.int b) k3 p3] k4 p4] k5 p5) env) Q E s := by
  k_steps
  exact h _ _ _ _ (by assumption) (by assumption) (R.add (fun p hp => List.mem_cons_of_mem _ (List.mem_cons_of_mem _ hp)) (.told (.head _) (.tail _ (.head _)) hl e))
set_option maxHeartbeats 4000000 in
theorem row_odd (X : (laid.heap_1 w.params).In g) (F : Fr g L s.heap m) (N : News g L s.heap K) (R : Rows w mean mg mb base K vs)
    (h : ∀ y h' tk' K', Fr g L h' m → News g L h' K' → Rows w mean mg mb base K' (vs ++ [.ref y]) → Q (.ref y) { s with heap := h', toks := tk' }) :
    wpAny (model PySem.Challenge.rw_nu0021_01.row.prog w) A (eval (.Tuple [.Constant (.str (Str.ofString "rebecca")) k0 p0, .Constant .none k1 p1] k5 p5) env) Q E s := by
  k_steps
  exact h _ _ _ _ (by assumption) (by assumption) (R.add (fun p hp => List.mem_cons_of_mem _ hp) (.odd (.head _)))
end
/-- the table told so far is put into one word -/
theorem pack2 {base K all rest : List (Addr × Obj)} {vs vs' : List Value} {g h : Heap} {L D l : Addr} {vx : Array Value} {n : Nat} (hl : ∀ p ∈ rest, p.1 ≠ l) (N : News g L h all) (R : Rows w mean mg mb base K vs) (e : vs = vs') (s : ∀ p ∈ K, p ∈ all) (hD : (D, listOf vs'.toArray 0) ∈ all) (hx : (l, listOf vx n) ∈ base) (hr : ∀ p ∈ rest, p ∈ base) :
    ∃ K', News g L h ((D, listOf vs'.toArray 0) :: (l, listOf vx n) :: K') ∧ Rows w mean mg mb ((D, listOf vs'.toArray 0) :: (l, listOf vx n) :: K') ((D, listOf vs'.toArray 0) :: (l, listOf vx n) :: K') vs' ∧ (∀ p ∈ rest, p ∈ (D, listOf vs'.toArray 0) :: (l, listOf vx n) :: K') ∧ NamedAll w mean mg mb K' vs' ∧ (∀ p ∈ rest, p ∈ K') ∧ ∀ p ∈ K', p.1 ≠ l := by
  subst e
  obtain ⟨K', N', H', r', o'⟩ := pack (w := w) (mean := mean) (mg := mg) (mb := mb) hl N hD (s _ (R.sub _ hx)) (fun p hp => s p (R.sub p (hr p hp))) (by have := NamedAll.add (w := w) (mean := mean) (mg := mg) (mb := mb) (ns := []) s trivial R.all; rwa [List.append_nil] at this)
  exact ⟨K', N', .start H' fun p hp => .tail _ (.tail _ hp), fun p hp => .tail _ (.tail _ (r' p hp)), H', r', o'⟩
/-- the draw's source to the ledger's head -/
theorem pack3 {K : List (Addr × Obj)} {vs : List Value} {g h : Heap} {L D l : Addr} {vx : List Value} {n : Nat} (N : News g L h ((D, listOf vs.toArray 0) :: (l, listOf vx.toArray n) :: K)) (hne : vs.length ≠ vx.length) (ho : ∀ p ∈ K, p.1 ≠ l) :
    News g L h ((l, listOf vx.toArray n) :: (D, listOf vs.toArray 0) :: K) ∧ ∀ p ∈ (D, listOf vs.toArray 0) :: K, p.1 ≠ l := by
  refine ⟨rot1 N, List.forall_mem_cons.mpr ⟨fun e => ?_, ho⟩⟩
  have h1 := (N _ (List.Mem.head _)).1
  have h2 := (N _ (List.Mem.tail _ (List.Mem.head _))).1
  dsimp only at h1 h2 e
  rw [e, h2] at h1
  have q := congrArg Obj.data (Option.some.inj h1)
  simp only [Data.seq.injEq] at q
  exact hne (congrArg Array.size q.1).symm
example : True := by
  k_with "exec Assign cons BinOp" => (((fail_if_success (with_reducible rename Packed => z9)); refine stopHere ?_))
  trivial
example : True := by
  k_with "binaryOp Add ref ref" => (((with_reducible rename Packed => z9); clear z9))
  trivial
example : True := by
  k_with "eval Tuple" => ((k_here; (with_reducible show wpAny _ _ (eval (PySem.Expr.Tuple [PySem.Expr.Constant _ _ _, PySem.Expr.Constant _ _ _] _ _) _) _ _ _); k_dflt (refine' row_odd ?_ ?_ ?_ ?_ ?_; rotate_right 5; (focus (k_asm)); (focus (k_asm)); (focus (k_asm)); (focus (assumption))); intro y9 h9 tk9 K9 F9 N9 R9; (try dsimp only)))
  trivial
example : True := by
  k_with "eval Tuple" => ((k_here; (with_reducible show wpAny _ _ (eval (PySem.Expr.Tuple [PySem.Expr.Constant _ _ _, PySem.Expr.Tuple _ _ _] _ _) _) _ _ _); k_dflt (refine' row_made ?_ ?_ ?_ ?_ ?_ ?_ ?_; rotate_right 7; (focus (k_asm)); (focus (k_asm)); (focus (k_asm)); (focus (assumption)); (focus (with_reducible assumption)); (focus (decide +kernel))); intro y9 h9 tk9 K9 F9 N9 R9; (try dsimp only)))
  trivial
example : True := by
  k_with "k_mem" => (first | assumption | (refine' Rows.sub ?_ _ ?_; rotate_right 2; (focus (assumption)); (focus (exact List.Mem.head _))))
  trivial
set_option maxHeartbeats 8000000 in
theorem named_right (a b : Int) (ta tb : Tok) (l : Addr) (n : Nat) (rest : List (Addr × Obj)) (hl : ∀ p ∈ rest, p.1 ≠ l) (ha : 0 ≤ a) (hb : 0 ≤ b ∧ b < 2147483647)
    (e0 : ReadsTo w mean mg mb (Str.ofString " " ++ Str.ofString "red") 255 0 0)
    (e1 : ReadsTo w mean mg mb (Str.ofString " " ++ Str.ofString "lime") 0 255 0)
    (e2 : ReadsTo w mean mg mb (Str.ofString " " ++ Str.ofString "green") 0 128 0)
    (e3 : ReadsTo w mean mg mb (Str.ofString " " ++ Str.ofString "Navy") 0 0 128)
    (e4 : ReadsTo w mean mg mb (Str.ofString " " ++ Str.ofString "orange") 255 165 0)
    (e5 : ReadsTo w mean mg mb (Str.ofString " " ++ Str.ofString "grey") 128 128 128)
    (e6 : ReadsTo w mean mg mb (Str.ofString " " ++ Str.ofString "tan") 210 180 140)
    (e7 : ReadsTo w mean mg mb (Str.ofString " " ++ Str.ofString "gray") 128 128 128)
    (e8 : ReadsTo w mean mg mb (Str.ofString " " ++ Str.ofString "aliceblue") 240 248 255)
    (e9 : ReadsTo w mean mg mb (Str.ofString " " ++ Str.ofString "yellowgreen") 154 205 50)
    (e10 : ReadsTo w mean mg mb (Str.ofString " " ++ Str.ofString "aqua") 0 255 255)
    (e11 : ReadsTo w mean mg mb (Str.ofString " " ++ Str.ofString "MediumVioletRed") 199 21 133)
    (e12 : ReadsTo w mean mg mb (Str.ofString " " ++ Str.ofString "slategrey") 112 128 144)
    (e13 : ReadsTo w mean mg mb (Str.ofString " " ++ Str.ofString "lightgoldenrodyellow") 250 250 210)
    (e14 : ReadsTo w mean mg mb (Str.ofString " " ++ Str.ofString "whitesmoke") 245 245 245)
    (eX : ReadBad w mean mg mb (Str.ofString "rebecca")) :
    CallOf0 w mean mg mb 285 [.ref l] 18 ((l, listOf #[.int a ta, .int b tb] n) :: rest) (fun h₀ L m s Q => ∀ a' b' t1 t2 n' h' tk', 0 ≤ a' → 0 ≤ b' → b' < 2147483647 → Fr h₀ L h' m → News h₀ L h' ((l, listOf #[.int a' t1, .int b' t2] n') :: rest) → Q (.bool true) {s with heap := h', toks := tk'}) := by
  dsimp only [CallOf0]
  intro dp un gd cn cs a9 ccd cl A₀ base h₀ L m s Q E B F X N T hk hd9 hu9 XB TB hret
  suffices hz : (laid.heap_1 = laid.heap_1 → PySem.Challenge.rw_nu0021_01 = PySem.Challenge.rw_nu0021_01 → _) from hz rfl rfl
  k_fill
  intro _ _
  refine wpAny_call ?_
  k_dflt (refine' code_defT0 ?k1 ?k2 ?k3 ?k4 ?k5 ?XB ?TB ?kA ?kF ?kK ?k6 ?k7 ?k8 ?k9 ?kB ?_ ?c2 ?c3 ?c4 ?c5; (case kA => exact rfl); (case kF => exact rfl); (case kK => assumption); (case k1 => assumption); (case XB => exact XB); (case TB => exact TB); (case k2 => k_asm); (case k3 => exact X); (case k4 => k_asm); (case k5 => exact T); (case k6 => k_is); (case k7 => k_is); (case k8 => ktr_room); (case k9 => first | exact BindsTo.of_eq rfl | exact binds_K (by k_in) rfl (by k_is) rfl rfl rfl); (case c5 => decide); (case kB => exact locs rfl); (case c2 => exact rfl); (case c3 => exact rfl); (case c4 => exact rfl); k_whole; intro g' L' h' FG' F' N' B' X' T' D'; (try dsimp only); (try k_lift B'); (try k_fold))
  have R9 : Rows w mean mg mb ((l, listOf #[.int a ta, .int b tb] n) :: rest) ((l, listOf #[.int a ta, .int b tb] n) :: rest) [] := ⟨fun _ h => h, trivial⟩
  k_steps
  refine Wrap.mk ?_
  with_reducible rename News _ _ _ _ => Nw
  with_reducible rename Rows _ _ _ _ _ _ _ => Rw
  obtain ⟨K0, Nw0, R0, r0, HK0, hK0, ho0⟩ := pack2 (l := l) (rest := rest) (vs' := [_, _, _, _]) hl Nw Rw rfl (fun p hp => by repeat (first | exact hp | refine List.mem_cons_of_mem _ ?_)) (by k_mem) (List.Mem.head _) (fun p hp => List.Mem.tail _ hp)
  clear Nw Rw
  clear R9
  have hp9 : Packed := ⟨⟩
  k_steps
  refine Wrap.mk ?_
  with_reducible rename News _ _ _ _ => Nw
  with_reducible rename Rows _ _ _ _ _ _ _ => Rw
  obtain ⟨K1, Nw1, R1, r1, HK1, hK1, ho1⟩ := pack2 (l := l) (rest := rest) (vs' := [_, _, _, _, _, _, _]) hl Nw Rw rfl (fun p hp => by repeat (first | exact hp | refine List.mem_cons_of_mem _ ?_)) (by k_mem) (List.Mem.tail _ (List.Mem.head _)) r0
  clear Nw Rw
  clear R0 r0 HK0 hK0 ho0
  have hp9 : Packed := ⟨⟩
  k_steps
  refine Wrap.mk ?_
  with_reducible rename News _ _ _ _ => Nw
  with_reducible rename Rows _ _ _ _ _ _ _ => Rw
  obtain ⟨K2, Nw2, R2, r2, HK2, hK2, ho2⟩ := pack2 (l := l) (rest := rest) (vs' := [_, _, _, _, _, _, _, _, _, _]) hl Nw Rw rfl (fun p hp => by repeat (first | exact hp | refine List.mem_cons_of_mem _ ?_)) (by k_mem) (List.Mem.tail _ (List.Mem.head _)) r1
  clear Nw Rw
  clear R1 r1 HK1 hK1 ho1
  have hp9 : Packed := ⟨⟩
  k_steps
  refine Wrap.mk ?_
  with_reducible rename News _ _ _ _ => Nw
  with_reducible rename Rows _ _ _ _ _ _ _ => Rw
  obtain ⟨K3, Nw3, R3, r3, HK3, hK3, ho3⟩ := pack2 (l := l) (rest := rest) (vs' := [_, _, _, _, _, _, _, _, _, _, _, _]) hl Nw Rw rfl (fun p hp => by repeat (first | exact hp | refine List.mem_cons_of_mem _ ?_)) (by k_mem) (List.Mem.tail _ (List.Mem.head _)) r2
  clear Nw Rw
  clear R2 r2 HK2 hK2 ho2
  have hp9 : Packed := ⟨⟩
  k_steps
  refine Wrap.mk ?_
  with_reducible rename News _ _ _ _ => Nw
  with_reducible rename Rows _ _ _ _ _ _ _ => Rw
  obtain ⟨K4, Nw4, R4, r4, HK4, hK4, ho4⟩ := pack2 (l := l) (rest := rest) (vs' := [_, _, _, _, _, _, _, _, _, _, _, _, _, _]) hl Nw Rw rfl (fun p hp => by repeat (first | exact hp | refine List.mem_cons_of_mem _ ?_)) (by k_mem) (List.Mem.tail _ (List.Mem.head _)) r3
  clear Nw Rw
  clear R3 r3 HK3 hK3 ho3
  have hp9 : Packed := ⟨⟩
  k_steps
  with_reducible rename News _ _ _ _ => Nw
  with_reducible rename Rows _ _ _ _ _ _ _ => Rw
  obtain ⟨K5, Nw5, R5, r5, HK5, hK5, ho5⟩ := pack2 (l := l) (rest := rest) (vs' := [_, _, _, _, _, _, _, _, _, _, _, _, _, _, _, _]) hl Nw Rw rfl (fun p hp => by repeat (first | exact hp | refine List.mem_cons_of_mem _ ?_)) (by k_mem) (List.Mem.tail _ (List.Mem.head _)) r4
  clear Nw Rw
  clear R4 r4 HK4 hK4 ho4
  obtain ⟨Nw, off9⟩ := pack3 Nw5 (fun z => absurd (show (16 : Nat) = 2 from z) (by decide)) ho5
  clear Nw5
  k_steps
  refine Wrap.mk ?_
  rename Value => v9
  rename v9 ∈ _ => hv9
  with_reducible rename News _ _ _ _ => Nw
  have key := NamedAt.out (w := w) (mean := mean) (mg := mg) (mb := mb) (v := v9) (x := (l, listOf #[.int _ _, .int _ _] _)) (rest := rest) Nw (by k_mem) (fun p hp => List.mem_cons_of_mem _ (List.mem_cons_of_mem _ (hK5 p hp)))
    ((NamedAll.mem HK5 hv9).mono fun p hp => List.mem_cons_of_mem _ (List.mem_cons_of_mem _ hp))
  clear Nw hv9 HK5 hK5 ho5 R5 r5
  clear e0 e1 e2 e3 e4 e5 e6 e7 e8 e9 e10 e11 e12 e13 e14
  rcases key with ⟨y, z, nm, r, g', b', tn, tr, tg, tb', rfl, Nw, hnm, e⟩ | ⟨y, tn, rfl, Nw⟩
  all_goals k_steps
  all_goals (with_reducible rename News _ _ _ _ => Nend)
  all_goals (exact fin_src hret (by assumption) Nend (by k_mem) (fun p hp => by repeat (first | exact hp | refine List.mem_cons_of_mem _ ?_)) (by assumption) (by assumption))
end
theorem parts_right0 (a b : Int) (ta tb : Tok) (l : Addr) (n : Nat) (rest : List (Addr × Obj)) (hl : ∀ p ∈ rest, p.1 ≠ l) (ha : 0 ≤ a) (hb : 0 ≤ b ∧ b < 2147483647) :
    CallOf w mean mg mb 278 [.ref l] 14 ((l, listOf #[.int a ta, .int b tb] n) :: rest) (fun h₀ L m s Q => ∀ a' b' t1 t2 n' h' tk', 0 ≤ a' → 0 ≤ b' → b' < 2147483647 → Fr h₀ L h' m → News h₀ L h' ((l, listOf #[.int a' t1, .int b' t2] n') :: rest) → Q (.bool true) {s with heap := h', toks := tk'}) :=
  parts_right a b ta tb l n rest hl ha hb hR1 hR2 hR3
theorem named_right0 (a b : Int) (ta tb : Tok) (l : Addr) (n : Nat) (rest : List (Addr × Obj)) (hl : ∀ p ∈ rest, p.1 ≠ l) (ha : 0 ≤ a) (hb : 0 ≤ b ∧ b < 2147483647) :
    CallOf0 w mean mg mb 285 [.ref l] 18 ((l, listOf #[.int a ta, .int b tb] n) :: rest) (fun h₀ L m s Q => ∀ a' b' t1 t2 n' h' tk', 0 ≤ a' → 0 ≤ b' → b' < 2147483647 → Fr h₀ L h' m → News h₀ L h' ((l, listOf #[.int a' t1, .int b' t2] n') :: rest) → Q (.bool true) {s with heap := h', toks := tk'}) :=
  named_right a b ta tb l n rest hl ha hb name0 name1 name2 name3 name4 name5 name6 name7 name8 name9 name10 name11 name12 name13 name14 nameX

section
example : True := by
  k_with_none
  k_with "k_all" => (first | assumption | (intro p9 hp9; (repeat' (first | (with_reducible rename (∀ p : Addr × Obj, p ∈ (_ : List (Addr × Obj)) → @LT.lt Nat _ p.1 _) => hq9; first | replace hq9 := ltN (hq9 p9 hp9) | clear hq9) | (with_reducible rename AllLt _ _ => hq9; first | replace hq9 := ltN (ktn_ltOf hq9 p9 hp9) | clear hq9) | (with_reducible rename (_ ∧ AllLt _ _) => hq9; obtain ⟨hz9, hq9⟩ := hq9))); (refine neN ?_); omega))
  k_with "k_ne" => ((refine neN ?_; (try dsimp only); first | with_reducible assumption | exact Ne.symm (by with_reducible assumption) | exact ne_above (by with_reducible assumption) (by k_mem) | exact Ne.symm (ne_above (by with_reducible assumption) (by k_mem)) | exact ne_above1 (by with_reducible assumption) (by k_mem) | exact Ne.symm (ne_above1 (by with_reducible assumption) (by k_mem))))
  k_with "room" => (first | exact room_at (by with_reducible assumption) rfl rfl | exact room_at0 (by with_reducible assumption) rfl | exact room_at1 (by with_reducible assumption) rfl rfl)
  k_with "units" => (exact units_at (by with_reducible assumption) rfl rfl)
  k_with "x.p" => (refine' Prem.mk ?_ ?_ ?_ ?_ ?_ ?_ ?_ ?_; rotate_right 8; (focus k_asm); (focus k_asm); (focus k_asm); (focus (k_asm)); (focus k_asm); (focus (first | exact rfl | assumption)); (focus ktr_room); (focus ktr_units))
  k_with "x.pn" => (refine' Prem.mk ?_ ?_ ?_ ?_ ?_ ?_ ?_ ?_; rotate_right 8; (focus k_asm); (focus k_asm); (focus k_asm); (focus (first | k_asm | exact news_rot1 (by k_asm) | exact news_rot2 (by k_asm))); (focus k_asm); (focus (first | exact rfl | assumption)); (focus ktr_room); (focus ktr_units))
  k_with "x.pr" => (refine' Prem.mk ?_ ?_ ?_ ?_ ?_ ?_ ?_ ?_; rotate_right 8; (focus k_asm); (focus k_asm); (focus k_asm); (focus (first | k_asm | exact rot1 (by k_asm) | exact rot2 (by k_asm) | exact rot3 (by k_asm))); (focus k_asm); (focus (first | exact rfl | assumption)); (focus ktr_room); (focus ktr_units))
  k_with "x.t" => (intro t9 h9 tk9 F9 N9; (try dsimp only); (try k_fold))
  k_with "x.2" => (intro x9 t91 t92 h9 tk9 F9 N9 l9; (try k_lt l9); (try dsimp only); (try k_fold))
  k_with "x.3" => (intro x9 t91 t92 t93 h9 tk9 F9 N9 l9; (try k_lt l9); (try dsimp only); (try k_fold))
  k_with "x.4" => (intro x9 t91 t92 t93 t94 h9 tk9 F9 N9 l9; (try k_lt l9); (try dsimp only); (try k_fold))
  k_with "x.tt" => (intro t9 t91 h9 tk9 F9 N9; (try dsimp only); (try k_fold))
  k_with "x.take" => (intro d9 a9 b9 t9 t91 t92 n9 h9 tk9 hd0 hd1 ha9 hb9 hb99 F9 N9; (have hb9' := And.intro hb9 hb99); (try dsimp only); (try k_fold))
  k_with "x.r" => (intro e9 t9 ws9 h9 tk9 G9 FG9 R9 U9; (try dsimp only); (try k_fold))
  k_with "x.c" => (intro h9 tk9 g9 T9 F9 N9 B9 X9 P9 D9; (try dsimp only); (try k_fold))
  k_with "eval Name" => ((k_here; (first | ((with_reducible show wpAny _ _ (eval (Expr.Name _ _) (compEnvC _ _ _ _)) _ _ _); k_dflt (first | (name_kind "local"; refine' LCgL.ld_own ?_ ?_ ?_ ?_ ?_ ?_ ?_ ?_; rotate_right 8; rotate_left 6; (focus (first | kernel_rfl! | rfl)); rotate_right 6; rotate_left 5; (focus (rfl)); rotate_right 5; rotate_left 5; (focus (decide)); rotate_right 5; (focus (k_asm)); (focus (k_mem)); (focus (assumption)); (focus (assumption))) | (name_kind "globalImplicit"; first | (refine' LCgL.ld_global ?_ ?_ ?_ ?_ ?_ ?_ ?_ ?_ ?_; rotate_right 9; rotate_left 7; (focus (first | kernel_rfl! | rfl)); rotate_right 7; (focus (k_asm)); (focus (k_asm)); (focus (k_asm)); (focus (k_is)); rotate_left 1; (focus (rfl)); rotate_right 1; rotate_left 1; (focus (rfl)); rotate_right 1; rotate_left 1; (focus (decide)); rotate_right 1) | (refine' LCgL.ld_built ?_ ?_ ?_ ?_ ?_ ?_ ?_ ?_ ?_ ?_ ?_ ?_; rotate_right 12; rotate_left 10; (focus (first | kernel_rfl! | rfl)); rotate_right 10; (focus (k_asm)); (focus (k_asm)); (focus (k_asm)); (focus (k_is)); (focus (boot_by_name)); (focus (decide)); rotate_left 1; (focus (rfl)); rotate_right 1; rotate_left 1; (focus (rfl)); rotate_right 1; rotate_left 1; (focus (rfl)); rotate_right 1; rotate_left 1; (focus (decide)); rotate_right 1))) ) | ((fail_if_success (with_reducible show wpAny _ _ (eval (Expr.Name _ _) (compEnvC _ _ _ _)) _ _ _)); k_dflt (first | (name_kind "local"; refine' nameX_L ?_ ?_ ?_ ?_ ?_; rotate_right 5; rotate_left 4; (focus (first | kernel_rfl! | rfl)); rotate_right 4; rotate_left 3; (focus (rfl)); rotate_right 3; (focus (k_asm)); (focus (rfl)); k_whole) | (name_kind "globalImplicit"; first | (refine' nameX_K ?_ ?_ ?_ ?_ ?_ ?_ ?_; rotate_right 7; rotate_left 6; (focus (first | kernel_rfl! | rfl)); rotate_right 6; (focus (k_asm)); (focus (k_asm)); (focus (k_asm)); rotate_left 2; (focus (rfl)); rotate_right 2; (focus (k_is)); k_whole) | (refine' nameX_B ?_ ?_ ?_ ?_ ?_ ?_ ?_ ?_ ?_; rotate_right 9; rotate_left 8; (focus (first | kernel_rfl! | rfl)); rotate_right 8; (focus (k_asm)); (focus (k_asm)); (focus (k_asm)); rotate_left 4; (focus (rfl)); rotate_right 4; (focus (k_is)); (focus (boot_fast)); (focus (decide)); k_whole)) | (name_kind "cell"; refine' nameX_C ?_ ?_ ?_ ?_ ?_ ?_ ?_; rotate_right 7; rotate_left 6; (focus (first | kernel_rfl! | rfl)); rotate_right 6; rotate_left 5; (focus (rfl)); rotate_right 5; (focus (k_asm)); (focus (rfl)); (focus (k_mem)); (focus (k_asm)); k_whole))))))
  k_with "fold" => ((fail_if_success (fail_if_success k_fold)); (refine (let qk := _; let ek := _; (?_ : wpAny _ _ _ qk ek _))))
  k_with "isTrue BoolOp" => (k_here; k_extra "fold")
  k_with "isTrue Compare" => (k_here; k_extra "fold")
  k_with "isTrue UnaryOp" => (k_here; k_extra "fold")
  k_with "eval Call" => (k_here; k_extra "fold")
  k_with "eval Compare" => (k_here; k_extra "fold")
  k_with "eval BinOp" => (k_here; k_extra "fold")
  k_with "eval Tuple" => (k_here; k_extra "fold")
  k_with "eval List" => (k_here; k_extra "fold")
  trivial
/-- the shade's own text -/
noncomputable def upText (r g b : Int) : Str := ⟨#[35, upDigit (r / 16), loDigit (r % 16), upDigit (g / 16), loDigit (g % 16), upDigit (b / 16), loDigit (b % 16)]⟩
theorem call_lower {prog : Program} {A : Around} {E : Value → Shared → Prop} {s : Shared} {r g b : Int} {t : Tok} {Q : Value → Shared → Prop} (hr : 0 ≤ r ∧ r ≤ 255) (hg : 0 ≤ g ∧ g ≤ 255) (hb : 0 ≤ b ∧ b ≤ 255)
    (h : ∀ t' k, Q (.str ⟨#[35, loDigit (r / 16), loDigit (r % 16), loDigit (g / 16), loDigit (g % 16), loDigit (b / 16), loDigit (b % 16)]⟩ t') { s with toks := k }) :
    wpAny (model prog w) A (call (.builtin "str.lower") [.str (Str.ofString "#" ++ Txt.join (Str.ofString "") [Str.mk #[upDigit (r / 16), loDigit (r % 16)], Str.mk #[upDigit (g / 16), loDigit (g % 16)], Str.mk #[upDigit (b / 16), loDigit (b % 16)]]) t]) Q E s :=
  SC.lower (by rw [lower_hex r g b hr hg hb]; rfl) (by rw [lower_hex r g b hr hg hb]; exact h _ _)
/-- a draw of a byte -/
theorem one_byte (a b : Int) (ta tb : Tok) (l y : Addr) (n k : Nat) (vs : List Value) (rest : List (Addr × Obj)) (hl : ∀ p ∈ rest, p.1 ≠ l) (hy : (y, listOf vs.toArray k) ∈ rest) (ha : 0 ≤ a) (hb : 0 ≤ b ∧ b < 2147483647) (hv : 0 < vs.length ∧ vs.length ≤ 100)
    (hP : ∀ v ∈ vs, ∃ n t, v = Value.int n t ∧ 0 ≤ n ∧ n ≤ 255) :
    CallOf w mean mg mb 252 [.ref l, .ref y] 2 ((l, listOf #[.int a ta, .int b tb] n) :: rest) (fun h₀ L m s Q => ∀ c t a' b' t1 t2 n' h' tk', 0 ≤ c ∧ c ≤ 255 → 0 ≤ a' → 0 ≤ b' → b' < 2147483647 → Fr h₀ L h' m → News h₀ L h' ((l, listOf #[.int a' t1, .int b' t2] n') :: rest) → Q (.int c t) {s with heap := h', toks := tk'}) := by
  intro dp un gd cn cs a9 ccd cl outer A₀ base h₀ L m s Q E B F X N T hk hd9 hu9 hret
  refine one_head a b ta tb l y n k vs rest hl hy ha hb hv dp un gd cn cs a9 ccd cl outer A₀ base h₀ L m s Q E B F X N T hk hd9 hu9 (fun v a' b' t1 t2 n' h' tk' hm h1 h2 h3 F' N' => ?_)
  obtain ⟨c, t, rfl, hc⟩ := hP v hm
  exact hret c t a' b' t1 t2 n' h' tk' hc h1 h2 h3 F' N'
/-- a draw of a text that is no colour -/
theorem one_bad (a b : Int) (ta tb : Tok) (l y : Addr) (n k : Nat) (vs : List Value) (rest : List (Addr × Obj)) (hl : ∀ p ∈ rest, p.1 ≠ l) (hy : (y, listOf vs.toArray k) ∈ rest) (ha : 0 ≤ a) (hb : 0 ≤ b ∧ b < 2147483647) (hv : 0 < vs.length ∧ vs.length ≤ 100)
    (hP : ∀ v ∈ vs, ∃ x t, v = Value.str x t ∧ ReadBad w mean mg mb x) :
    CallOf w mean mg mb 252 [.ref l, .ref y] 2 ((l, listOf #[.int a ta, .int b tb] n) :: rest) (fun h₀ L m s Q => ∀ x t a' b' t1 t2 n' h' tk', ReadBad w mean mg mb x → 0 ≤ a' → 0 ≤ b' → b' < 2147483647 → Fr h₀ L h' m → News h₀ L h' ((l, listOf #[.int a' t1, .int b' t2] n') :: rest) → Q (.str x t) {s with heap := h', toks := tk'}) := by
  intro dp un gd cn cs a9 ccd cl outer A₀ base h₀ L m s Q E B F X N T hk hd9 hu9 hret
  refine one_head a b ta tb l y n k vs rest hl hy ha hb hv dp un gd cn cs a9 ccd cl outer A₀ base h₀ L m s Q E B F X N T hk hd9 hu9 (fun v a' b' t1 t2 n' h' tk' hm h1 h2 h3 F' N' => ?_)
  obtain ⟨c, t, rfl, hc⟩ := hP v hm
  exact hret c t a' b' t1 t2 n' h' tk' hc h1 h2 h3 F' N'
/-- the forms in which the text calls premultiplied, shade_of, weighted -/
theorem weighted_w (n : Int) (t1 t2 : Tok) (hn : 0 ≤ n ∧ n ≤ 255) (news : List (Addr × Obj)) :
    CallOf w mean mg mb 178 [.int n t1, .int 255 t2] 1 news (fun h₀ L m s Q => CbRet h₀ L m news s Q fun t => .int n t) := by
  have := weighted_is (w := w) (mean := mean) (mg := mg) (mb := mb) n 255 t1 t2 hn (by decide) news
  rwa [mul8_255] at this
theorem weighted_r (n : Int) (t1 t2 : Tok) (hn : 0 ≤ n ∧ n ≤ 255) (news : List (Addr × Obj)) :
    CallOf w mean mg mb 178 [.int 255 t1, .int n t2] 1 news (fun h₀ L m s Q => CbRet h₀ L m news s Q fun t => .int n t) := by
  have := weighted_is (w := w) (mean := mean) (mg := mg) (mb := mb) 255 n t1 t2 (by decide) hn news
  rwa [mul8_r255] at this
theorem weighted_0 (n : Int) (t1 t2 : Tok) (hn : 0 ≤ n ∧ n ≤ 255) (news : List (Addr × Obj)) :
    CallOf w mean mg mb 178 [.int n t1, .int 0 t2] 1 news (fun h₀ L m s Q => CbRet h₀ L m news s Q fun t => .int 0 t) := by
  have := weighted_is (w := w) (mean := mean) (mg := mg) (mb := mb) n 0 t1 t2 hn (by decide) news
  rwa [mul8_0] at this
theorem premul_0 (r g b al : Int) (tr tg tb t1 : Tok) (x : Addr) (news : List (Addr × Obj)) (hx : (x, tupO [.int r tr, .int g tg, .int b tb]) ∈ news) (hr : 0 ≤ r ∧ r ≤ 255) (hg : 0 ≤ g ∧ g ≤ 255) (hb : 0 ≤ b ∧ b ≤ 255) (ha : 0 ≤ al ∧ al ≤ 255) :
    CallOf w mean mg mb 185 [.ref x, .int al t1] 2 news (fun h₀ L m s Q => Ret4 h₀ L m news s Q ((2 * r * al + 255).fdiv 510) ((2 * g * al + 255).fdiv 510) ((2 * b * al + 255).fdiv 510) al) := by
  have := premul_is (w := w) (mean := mean) (mg := mg) (mb := mb) r g b al tr tg tb t1 x news hx hr hg hb ha
  rwa [told_mul, told_mul, told_mul] at this
theorem premul_255 (r g b : Int) (tr tg tb t1 : Tok) (x : Addr) (news : List (Addr × Obj)) (hx : (x, tupO [.int r tr, .int g tg, .int b tb]) ∈ news) (hr : 0 ≤ r ∧ r ≤ 255) (hg : 0 ≤ g ∧ g ≤ 255) (hb : 0 ≤ b ∧ b ≤ 255) :
    CallOf w mean mg mb 185 [.ref x, .int 255 t1] 2 news (fun h₀ L m s Q => Ret4 h₀ L m news s Q r g b 255) := by
  have := premul_is (w := w) (mean := mean) (mg := mg) (mb := mb) r g b 255 tr tg tb t1 x news hx hr hg hb (by decide)
  rwa [mul8_255, mul8_255, mul8_255] at this
theorem shade_255 (r g b : Int) (tr tg tb t1 : Tok) (x : Addr) (news : List (Addr × Obj)) (hx : (x, tupO [.int r tr, .int g tg, .int b tb, .int 255 t1]) ∈ news) (hr : 0 ≤ r ∧ r ≤ 255) (hg : 0 ≤ g ∧ g ≤ 255) (hb : 0 ≤ b ∧ b ≤ 255) :
    CallOf w mean mg mb 190 [.ref x] 2 news (fun h₀ L m s Q => Ret3 h₀ L m news s Q r g b) := by
  have := shade_is (w := w) (mean := mean) (mg := mg) (mb := mb) r g b 255 tr tg tb t1 x news hx (by omega) (by omega) (by omega) (by decide)
  rwa [unmul_255, unmul_255, unmul_255] at this
/-- a part told back from its weight -/
structure BackOf (u r al : Int) : Prop where
  rng : 0 ≤ u ∧ u ≤ 255
  eq : mul8 u al = (2 * r * al + 255).fdiv 510
theorem back_of {r al : Int} (hr : 0 ≤ r ∧ r ≤ 255) (ha : 0 ≤ al ∧ al ≤ 255) : BackOf (unmul ((2 * r * al + 255).fdiv 510) al) r al := by
  have q1 := mul8_rng hr ha
  rw [told_mul] at q1
  exact ⟨unmul_rng q1 ha, back_is q1 ha⟩
theorem shade_told (r g b al : Int) (tr tg tb t1 : Tok) (x : Addr) (news : List (Addr × Obj)) (hx : (x, tupO [.int ((2 * r * al + 255).fdiv 510) tr, .int ((2 * g * al + 255).fdiv 510) tg, .int ((2 * b * al + 255).fdiv 510) tb, .int al t1]) ∈ news) (hr : 0 ≤ r ∧ r ≤ 255) (hg : 0 ≤ g ∧ g ≤ 255) (hb : 0 ≤ b ∧ b ≤ 255) (ha : 0 ≤ al ∧ al ≤ 255) :
    CallOf w mean mg mb 190 [.ref x] 2 news (fun h₀ L m s Q => ∀ u1 u2 u3, BackOf u1 r al → BackOf u2 g al → BackOf u3 b al → Ret3 h₀ L m news s Q u1 u2 u3) := by
  have q1 := mul8_rng hr ha
  have q2 := mul8_rng hg ha
  have q3 := mul8_rng hb ha
  rw [told_mul] at q1 q2 q3
  dsimp only [toldF] at q1 q2 q3
  intro dp un gd cn cs a9 ccd cl outer A₀ base h₀ L m s Q E B F X N T hk hd9 hu9 hret
  exact shade_is _ _ _ _ _ _ _ _ x news hx (by omega) (by omega) (by omega) (by omega) dp un gd cn cs a9 ccd cl outer A₀ base h₀ L m s Q E B F X N T hk hd9 hu9 (hret _ _ _ (back_of hr ha) (back_of hg ha) (back_of hb ha))
theorem premul_back (u1 u2 u3 r g b al : Int) (tr tg tb t1 : Tok) (x : Addr) (news : List (Addr × Obj)) (hx : (x, tupO [.int u1 tr, .int u2 tg, .int u3 tb]) ∈ news) (hr : BackOf u1 r al) (hg : BackOf u2 g al) (hb : BackOf u3 b al) (ha : 0 ≤ al ∧ al ≤ 255) :
    CallOf w mean mg mb 185 [.ref x, .int al t1] 2 news (fun h₀ L m s Q => Ret4 h₀ L m news s Q ((2 * r * al + 255).fdiv 510) ((2 * g * al + 255).fdiv 510) ((2 * b * al + 255).fdiv 510) al) := by
  have := premul_is (w := w) (mean := mean) (mg := mg) (mb := mb) _ _ _ al tr tg tb t1 x news hx hr.rng hg.rng hb.rng ha
  rwa [hr.eq, hg.eq, hb.eq] at this
theorem getD_mem {α : Type} {l : List α} {k : Nat} (h : k < l.length) (d : α) : l.getD k d ∈ l := by
  rw [List.getD_eq_getElem?_getD, List.getElem?_eq_getElem h]
  exact List.getElem_mem h
theorem odd_getD {k : Nat} (h : k < 11) : ReadBad w mean mg mb ([Str.ofString "", Str.ofString "#", Str.ofString "#12", Str.ofString "#1234", Str.ofString "#ggg", Str.ofString "rgb(1,2)", Str.ofString "rgb(1,2,3", Str.ofString "rgb(1,2%,3)", Str.ofString "rgb(,,)", Str.ofString "rgb(a,b,c)", Str.ofString "nothing"].getD k Str.empty) := by
  refine odd_bad _ (getD_mem ?_ _)
  exact h
theorem readsnone_at {x : Str} (h : ReadsNone w mean mg mb x) (t1 : Tok) (news : List (Addr × Obj)) : CallOf w mean mg mb 226 [.str x t1] 11 news (fun h₀ L m s Q => CbRet h₀ L m news s Q fun _ => .none) := h t1 news
structure AtOdds : Prop where
def MulR (al : Int) (v y : Value) : Prop := ∀ n t, v = .int n t → ∃ u, y = .int ((2 * n * al + 255).fdiv 510) u
abbrev Rof {al : Int} (_h : 0 ≤ al ∧ al ≤ 255) : Value → Value → Prop := MulR al
section
variable {prog : Program} {A : Around} {E : Value → Shared → Prop} {s : Shared} {h₀ : Heap} {env : Env} {m : Str → Option Value} {news : List (Addr × Obj)}
/-- a range of one or two -/
def LawIter (h₀ : Heap) (L : Addr) (m : Str → Option Value) (news : List (Addr × Obj)) (s : Shared) (v : Value) (s₁ : Shared) : Prop :=
  ∃ (r : Addr) (n : Nat) (t u z : Tok) (h : Heap) (tk : Nat), v = .ref r ∧ s₁ = { s with heap := h, toks := tk } ∧ (n = 1 ∨ n = 2) ∧ IsRange h r 0 ((n : Nat) : Int) 1 t u z ∧ Fr h₀ L h m ∧ News h₀ L h news
theorem LawIter.intro {r L : Addr} {x : Int} {t u z : Tok} {h : Heap} {tk : Nat} (hr : IsRange h r 0 x 1 t u z) (hx : x = 1 ∨ x = 2) (F : Fr h₀ L h m) (N : News h₀ L h news) : LawIter h₀ L m news s (.ref r) { s with heap := h, toks := tk } := by
  rcases hx with rfl | rfl
  · exact ⟨r, 1, t, u, z, h, tk, rfl, rfl, .inl rfl, hr, F, N⟩
  · exact ⟨r, 2, t, u, z, h, tk, rfl, rfl, .inr rfl, hr, F, N⟩
theorem for_iter {x : Str} {px pos : Pos} {iter : Expr} {body : List Stmt} {Q : Flow → Shared → Prop} (F : Fr h₀ env.locals s.heap m) (N : News h₀ env.locals s.heap news) (hx : env.kindOf x = some .local)
    (hp : (env.scope.kind == .class || (env.scope.kind == .module && env.locals != env.globals)) = false)
    (walk : wpAny (model prog w) A (eval iter env) (LawIter h₀ env.locals m news s) E s)
    (cont : ∀ r n t u z h tk, (n = 1 ∨ n = 2) → IsRange h r 0 ((n : Nat) : Int) 1 t u z → Fr h₀ env.locals h m → News h₀ env.locals h news → wpAny (model prog w) A (pyIter (.ref r)) (fun it s₂ => LoopAtV prog w A h₀ env x body Q E it s₂) E { s with heap := h, toks := tk })
    (hs : ∀ x, foldedSetIterable iter env x = pure x := by intro _; rfl)
    (hE : PassesOwn (model prog w) A env E := by passes_own) :
    wpAny (model prog w) A (exec (.For (.Name x px) iter body [] pos) env) Q E s :=
  For_invV h₀ hx hp (wpAny_mono walk (fun v s₁ q => by
    obtain ⟨r, n, t, u, z, h, tk, rfl, rfl, hn, hr, F, N⟩ := q
    exact cont r n t u z h tk hn hr F N) fun _ _ e => e) hs hE
end
theorem self_of {c : Int} (_h : 0 ≤ c ∧ c ≤ 255) : mul8 c 255 = c ∧ mul8 255 c = c ∧ mul8 c 0 = 0 := ⟨mul8_255 c, mul8_r255 c, mul8_0 c⟩
theorem off_hd {l : Addr} {rest : List (Addr × Obj)} {x : Addr × Obj} (h : x.1 ≠ l) (hl : ∀ p ∈ rest, p.1 ≠ l) : ∀ p ∈ x :: rest, p.1 ≠ l := List.forall_mem_cons.mpr ⟨h, hl⟩
example : True := by
  k_with "CompRest" => ((with_unfolding_all first | (refine LCg.CompRest.succ ?_; intro v' I' oI' C' oC' D' m' h' tk' E' hv' hC' hx' F' N' off' ne'; (first | lcg_open hv' | (obtain ⟨t9', hv9'⟩ := hv'; subst hv9')); replace ne' := apart3 ne') | refine LCg.CompRest.zero ?_))
  trivial
example : True := by
  k_with "CompEnd" => ((first | refine LCg.CompEnd.intro (by assumption) (by assumption) _ (fun p hp => hp) (by assumption) (by lcg_src) ?_ | refine LCg.CompEnd.intro (by assumption) (by assumption) _ (fun p hp => List.mem_cons_of_mem _ hp) (by assumption) (by lcg_src) ?_ | refine LCg.CompEnd.intro (by assumption) (by assumption) _ (fun p hp => List.mem_cons_of_mem _ (List.mem_cons_of_mem _ hp)) (by assumption) (by lcg_src) ?_))
  trivial
example : True := by
  k_with "FinE" => (((unfold LCg.FinE); intro D' h' tk' F' N' o1'; (try simp only [List.nil_append, List.cons_append] at N'); (try dsimp only)))
  trivial
example : True := by
  k_with "k_ne" => ((refine neN ?_; first | assumption | exact Ne.symm (by assumption) | exact Apart3.ic (by assumption) | exact Apart3.id (by assumption) | exact Apart3.cd (by assumption) | exact off3_i (by assumption) (by k_mem) | exact off3_c (by assumption) (by k_mem) | exact off3_d (by assumption) (by k_mem) | exact off1_d (by assumption) (by k_mem) | exact Ne.symm (off3_i (by assumption) (by k_mem)) | exact Ne.symm (off3_c (by assumption) (by k_mem)) | exact Ne.symm (off3_d (by assumption) (by k_mem)) | exact Ne.symm (off1_d (by assumption) (by k_mem))))
  trivial
example : True := by
  k_with "CompSrc" => ((k_here; k_dflt (refine LCg.CompSrc.ledger (by rfl) (by k_asm) (by k_asm) (by k_mem) (by first | size_fits | exact Nat.le_of_ble_eq_true rfl) ?_; intro g'; lcg_lit)))
  trivial
example : True := by
  k_with "CompSrc" => (((with_reducible show LCg.CompSrc _ _ _ _ _ _ _ (Expr.Call (Expr.Name (Str.ofString "_law_one") _) _ _ _) _ _ _ _ _ _); k_dflt (refine LCg.CompSrc.range (by rfl) (by k_asm) (by k_asm) (by assumption) (by first | decide | rfl) (by first | rfl | decide) (by first | size_fits | exact Nat.le_of_ble_eq_true rfl) ?_; intro g'); refine stopHere ?_))
  trivial
example : True := by
  k_with "CompSrc" => (((with_reducible show LCg.CompSrc _ _ _ _ _ _ _ (Expr.Call (Expr.Name (Str.ofString "_law_take") _) _ _ _) _ _ _ _ _ _); k_dflt (refine LCg.CompSrc.range (by rfl) (by k_asm) (by k_asm) (by assumption) (by first | decide | rfl) (by first | rfl | decide) (by first | size_fits | exact Nat.le_of_ble_eq_true rfl) ?_; intro g'); refine stopHere ?_))
  trivial
example : True := by
  k_with "eval ListComp" => (((with_reducible show wpAny _ _ (eval (Expr.ListComp _ [Comprehension.mk _ (Expr.Name (Str.ofString "shade") _) _ _] _ _) _) _ _ _); k_here; k_dflt (refine ListComp_M (by k_asm) (by with_unfolding_all rfl) (by decide) (by rfl) (by decide) (by rfl) ?_)))
  trivial
example : True := by
  k_with "MySrc" => ((k_here; k_dflt (refine MySrc.tup (by rfl) (by k_asm) (by k_asm) (by k_mem) (by first | size_fits | exact Nat.le_of_ble_eq_true rfl) ?_; intro g'; lcg_lit)))
  trivial
example : True := by
  k_with "lcg_src" => (exact ⟨_, by k_mem, rfl, _, rfl⟩)
  trivial
example : True := by
  k_with "call ref" => ((k_here; k_dflt (refine' callBy (take_head _ _ _ _ _ _ _ _ _ ?_ ?_ ?_ ?_) ?_ ?_; rotate_right 2; (focus (walk_at "x.pr")); (all_goals skip); rotate_right 4; (focus ((repeat' (first | assumption | refine off_hd ?_ ?_)); (all_goals (first | assumption | k_ne | (dsimp only; omega))))); (focus (k_asm)); (focus (k_asm)); (focus (omega)); walk_at "x.take")))
  trivial
example : True := by
  k_with "call ref" => ((k_here; k_dflt (refine' callBy (one_bad _ _ _ _ _ _ _ _ _ _ ?_ ?_ ?_ ?_ ?_ ?_) ?_ ?_; rotate_right 2; (focus (walk_at "x.pr")); (all_goals skip); rotate_right 6; (focus ((repeat' (first | assumption | refine off_hd ?_ ?_)); (all_goals (first | assumption | k_ne | (dsimp only; omega))))); (focus (k_mem)); (focus (k_asm)); (focus (k_asm)); (focus (exact ⟨Nat.le_of_ble_eq_true rfl, Nat.le_of_ble_eq_true rfl⟩)); (focus (simp only [List.mem_cons, List.not_mem_nil, or_false]; (rintro v9 (rfl | rfl | rfl | rfl | rfl | rfl | rfl | rfl | rfl | rfl | rfl)); (all_goals exact ⟨_, _, rfl, odd_bad _ (by with_reducible (repeat (first | exact List.Mem.head _ | apply List.Mem.tail)))⟩))); intro x9 t9 a9 b9 t91 t92 n9 h9 tk9 hx9 ha9 hb9 hb99 F9 N9; (have hb9' := And.intro hb9 hb99); (try dsimp only); (try k_fold))))
  trivial
example : True := by
  k_with "call ref" => ((k_here; k_dflt (refine' callBy (one_byte _ _ _ _ _ _ _ _ _ _ ?_ ?_ ?_ ?_ ?_ ?_) ?_ ?_; rotate_right 2; (focus (walk_at "x.pr")); (all_goals skip); rotate_right 6; (focus ((repeat' (first | assumption | refine off_hd ?_ ?_)); (all_goals (first | assumption | k_ne | (dsimp only; omega))))); (focus (k_mem)); (focus (k_asm)); (focus (k_asm)); (focus (exact ⟨Nat.le_of_ble_eq_true rfl, Nat.le_of_ble_eq_true rfl⟩)); (focus (simp only [List.mem_cons, List.not_mem_nil, or_false]; (rintro v9 (rfl | rfl | rfl | rfl | rfl)); (all_goals exact ⟨_, _, rfl, by omega⟩))); intro c9 t9 a9 b9 t91 t92 n9 h9 tk9 hc9 ha9 hb9 hb99 F9 N9; (have hb9' := And.intro hb9 hb99); (try dsimp only); (try k_fold))))
  trivial
example : True := by
  k_with "call ref" => ((k_here; k_dflt (refine' callBy (weighted_is _ _ _ _ ?_ ?_ _) ?_ ?_; rotate_right 2; (focus (walk_at "x.p")); (all_goals skip); rotate_right 2; (focus (first | assumption | decide)); (focus (first | assumption | decide)); walk_at "x.t")))
  trivial
example : True := by
  k_with "call ref" => ((k_here; k_dflt (refine' callBy (premul_0 _ _ _ _ _ _ _ _ _ _ ?_ ?_ ?_ ?_ ?_) ?_ ?_; rotate_right 2; (focus (walk_at "x.p")); (all_goals skip); rotate_right 5; (focus (k_mem)); (focus (k_asm)); (focus (k_asm)); (focus (k_asm)); (focus (k_asm)); walk_at "x.4")))
  trivial
example : True := by
  k_with "call ref" => ((k_here; k_dflt (refine' callBy (premul_back _ _ _ _ _ _ _ _ _ _ _ _ _ ?_ ?_ ?_ ?_ ?_) ?_ ?_; rotate_right 2; (focus (walk_at "x.p")); (all_goals skip); rotate_right 5; (focus (k_mem)); (focus (k_asm)); (focus (k_asm)); (focus (k_asm)); (focus (k_asm)); walk_at "x.4")))
  trivial
example : True := by
  k_with "call ref" => ((k_here; k_dflt (refine' callBy (premul_255 _ _ _ _ _ _ _ _ _ ?_ ?_ ?_ ?_) ?_ ?_; rotate_right 2; (focus (walk_at "x.p")); (all_goals skip); rotate_right 4; (focus (k_mem)); (focus (k_asm)); (focus (k_asm)); (focus (k_asm)); walk_at "x.4")))
  trivial
example : True := by
  k_with "call ref" => ((k_here; k_dflt (refine' callBy (shade_told _ _ _ _ _ _ _ _ _ _ ?_ ?_ ?_ ?_ ?_) ?_ ?_; rotate_right 2; (focus (walk_at "x.p")); (all_goals skip); rotate_right 5; (focus (k_mem)); (focus (k_asm)); (focus (k_asm)); (focus (k_asm)); (focus (k_asm)); intro u91 u92 u93 hu91 hu92 hu93 x9 t91 t92 t93 h9 tk9 F9 N9 l9; (try k_lt l9); (try dsimp only); (try k_fold))))
  trivial
example : True := by
  k_with "call ref" => ((k_here; k_dflt (refine' callBy (shade_255 _ _ _ _ _ _ _ _ _ ?_ ?_ ?_ ?_) ?_ ?_; rotate_right 2; (focus (walk_at "x.p")); (all_goals skip); rotate_right 4; (focus (k_mem)); (focus (k_asm)); (focus (k_asm)); (focus (k_asm)); walk_at "x.3")))
  trivial
example : True := by
  k_with "call ref" => ((k_here; k_dflt (refine' callBy (lawdigits_is _ _ ?_ _) ?_ ?_; rotate_right 2; (focus (walk_at "x.p")); (all_goals skip); rotate_right 1; (focus (omega)); walk_at "x.t")))
  trivial
example : True := by
  k_with "call ref" => ((k_here; k_dflt (refine' callBy (write_is _ _ _ _ _ _ _ _ ?_ ?_ ?_ ?_) ?_ ?_; rotate_right 2; (focus (walk_at "x.p")); (all_goals skip); rotate_right 4; (focus (k_mem)); (focus (omega)); (focus (omega)); (focus (omega)); walk_at "x.t")))
  trivial
example : True := by
  k_with "call ref" => ((k_here; k_dflt (refine' callBy (write_none () _) ?_ ?_; rotate_right 2; (focus (walk_at "x.p")); (all_goals skip); walk_at "x.t")))
  trivial
example : True := by
  k_with "call ref" => ((k_here; k_dflt (refine' callBy (readsnone_at ?_ _ _) ?_ ?_; rotate_right 2; (focus (walk_at "x.p")); (all_goals skip); rotate_right 1; (focus (k_asm)); walk_at "x.t")))
  trivial
example : True := by
  k_with "call ref" => ((k_here; k_dflt (refine' callBy (readsto_at ?_ _ _) ?_ ?_; rotate_right 2; (focus (walk_at "x.p")); (all_goals skip); rotate_right 1; (focus (k_asm)); walk_at "x.3")))
  trivial
example : True := by
  k_with "call builtin:str.join" => ((k_here; k_dflt (refine' join_three ?_ ?_ ?_ ?_ ?_ ?_ ?_; rotate_right 7; (focus (k_asm)); (focus (k_mem)); (focus (decide +kernel)); (focus (exact Nat.le_of_ble_eq_true rfl)); (focus (exact Nat.le_of_ble_eq_true rfl)); (focus (exact Nat.le_of_ble_eq_true rfl))); intro t9 k9 hj9))
  trivial
example : True := by
  k_with "call ref" => (((with_reducible show wpAny _ _ (call (Value.ref 238) _) _ _ _); refine stopHere ?_))
  trivial
example : True := by
  k_with "exec For Name Call cons nil" => (refine stopHere ?_)
  trivial
example : True := by
  k_with "call builtin:str.lower" => ((k_here; k_dflt (refine' call_lower ?_ ?_ ?_ ?_; rotate_right 4; (focus (assumption)); (focus (assumption)); (focus (assumption))); intro t9 k9))
  trivial
example : True := by
  k_with "exec Assign cons ListComp" => (((with_reducible show wpAny _ _ (exec (Stmt.Assign _ (Expr.ListComp (Expr.Call (Expr.Name (Str.ofString "_law_take") _) _ _ _) _ _ _) _) _) _ _ _); refine stopHere ?_))
  trivial
example : True := by
  k_with "call ref" => (((with_reducible show wpAny _ _ (call (Value.ref 278) _) _ _ _); refine stopHere ?_))
  trivial
example : True := by
  k_with "call ref" => (((with_reducible show wpAny _ _ (call (Value.ref 285) _) _ _ _); refine stopHere ?_))
  trivial
example : True := by
  k_with "call ref" => (((with_reducible show wpAny _ _ (call (Value.ref 185) _) _ _ _); refine stopHere ?_))
  trivial
example : True := by
  k_with "call ref" => (((with_reducible show wpAny _ _ (call (Value.ref 273) _) _ _ _); refine stopHere ?_))
  trivial
example : True := by
  k_with "exec Assign" => (((with_reducible show wpAny _ _ (exec (Stmt.Assign _ (Expr.List _ _) _) _) _ _ _); (with_reducible rename AtOdds => z9); refine stopHere ?_))
  trivial
example : True := by
  k_with "exec Assign cons List" => (((with_reducible show wpAny _ _ (exec (Stmt.Assign _ (Expr.List _ _) _) _) _ _ _); (with_reducible rename AtOdds => z9); refine stopHere ?_))
  trivial
example : True := by
  k_with "call ref" => (((with_reducible show wpAny _ _ (call (Value.ref 178) _) _ _ _); refine stopHere ?_))
  trivial
example : True := by
  k_with "exec Assign cons" => (((with_reducible show wpAny _ _ (exec (Stmt.Assign _ (Expr.List _ _) _) _) _ _ _); (with_reducible rename AtOdds => z9); refine stopHere ?_))
  trivial
example : True := by
  k_with "CompRest" => (refine stopHere ?_)
  trivial
example : True := by
  k_with "ite" => ((k_closed; first | (refine' ite_neg ?_ ?_; rotate_right 2; (focus (decide))) | (refine' ite_pos ?_ ?_; rotate_right 2; (focus (decide)))))
  trivial
set_option maxHeartbeats 16000000 in
theorem lawT : PySem.Challenge.rw_nu0021_01.Holds := hd rfl rfl rfl (by
  suffices hz : (laid.heap_1 = laid.heap_1 → _) from hz rfl
  k_fill
  intro _
  intro w s₀ s₁ mg mb G Y fa o pm cd doc dV kV ho hd hcd hD hmg hg args vals as hpre hlay hrd hwl hlo
  have KX := hook_in Y
  k_behind G ho hd hcd hD hmg hpre hlay hrd hwl hlo cd
  k_steps
  refine Wrap.mk ?_
  with_reducible rename Fr _ _ _ _ => Fs
  with_reducible rename News _ _ _ _ => Ns
  with_reducible rename IntsAre _ _ => hI
  with_reducible rename Top _ _ _ _ _ _ => TT
  with_reducible rename ¬ _ < _ => hlen
  have KB : Below callerA s₁.heap [] s₁.heap := by assumption
  refine for_iter Fs Ns rfl rfl ?walk ?cont
  case walk =>
    k_steps
    refine' LawIter.intro ?w1 ?w2 ?w3 ?w4
    case w1 => assumption
    case w3 => assumption
    case w4 => assumption
    case w2 => exact iter_b _ (by omega)
  case cont =>
    intro r n t u v h tk hn hr F1 N1
    rename s₁.heap.IsList _ _ => hL
    refine law_for (val := .ref _) (Str.ofString "script") (by decide) rfl F1 N1 ⟨_, by assumption⟩ ⟨_, by assumption⟩ hr hn rfl ?turn ?done
    case done =>
      clear hr hn F1 N1 Fs Ns
      intro m₁ h tk o1 o2 F N k1 k2
      have r1 := pct3 (w := w) (mean := ExcName.means s₀.heap) (mg := mg) (mb := mb)
      have r2 := none1 (w := w) (mean := ExcName.means s₀.heap) (mg := mg) (mb := mb)
      have r3 := none2 (w := w) (mean := ExcName.means s₀.heap) (mg := mg) (mb := mb)
      k_steps
    case turn =>
      clear hr hn F1 N1 Fs Ns
      intro i u m₂ h tk own o1 o2 hi kc1 kc2 F N ow1 ow2
      obtain ⟨v1, kd1⟩ := kc1
      obtain ⟨v2, kd2⟩ := kc2
      k_steps
      refine Wrap.mk ?_
      refine' (pool_is _ _ _ _ _ _ ?p1 ?p2) _ _ _ _ _ _ _ _ _ _ _ _ _ _ _ _ _ ?k1 ?k2 ?k3 ?k4 ?k5 ?kK ?kl ?ki ?kd ?ku ?_
      case p1 => exact hi
      case k1 => k_asm
      case k2 => k_asm
      case k3 => k_asm
      case k4 => k_asm
      case k5 => k_asm
      case kK => first | exact rfl | assumption
      case kl => exact hL
      case ki => exact hI
      case p2 => omega
      case kd => ktr_room
      case ku => ktr_units
      intro l a9 b9 t91 t92 h9 tk9 ha9 hb9 hb99 F9 N9 l9
      k_lt l9
      have hb9' := And.intro hb9 hb99
      have hlo9 : ∀ p ∈ own, p.1 ≠ l := fun p hp => Nat.ne_of_lt (l9 p (List.mem_cons_of_mem _ (List.mem_cons_of_mem _ hp)))
      clear F N
      k_steps
      refine Wrap.mk ?_
      refine src_turns (fun y => ∃ n t, y = .int n t ∧ 0 ≤ n ∧ n ≤ 255) l ?_ ?hl1 3 ?_ 3 0 [] _ _ _ _ _ rfl (by simp) ha9 hb9'
      · intro a b ta tb n ys I oI C oC D m₂ h tk E' ha hb hC F N off
        k_steps
        refine' SrcEnd.intro ?e11 ?e21 ?e31 ?e41 ?e51 ?e61
        case e51 => assumption
        case e41 => assumption
        case e21 => assumption
        case e31 => assumption
        case e61 => exact (fun p hp => by repeat (first | exact hp | refine List.mem_cons_of_mem _ ?_))
        exact ⟨_, _, rfl, by assumption⟩
      case hl1 => exact off_hd (by first | k_ne | (dsimp only; omega)) (off_hd (by first | k_ne | (dsimp only; omega)) hlo9)
      · intro ys a b ta tb n hy hP ha hb
        obtain ⟨y1, y2, y3, rfl⟩ := three_of hy
        obtain ⟨n1, u1, rfl, c1⟩ := hP _ (List.Mem.head _)
        obtain ⟨n2, u2, rfl, c2⟩ := hP _ (List.Mem.tail _ (List.Mem.head _))
        obtain ⟨n3, u3, rfl, c3⟩ := hP _ (List.Mem.tail _ (List.Mem.tail _ (List.Mem.head _)))
        clear hP hy
        have hr := reads_hash6 (w := w) (mean := ExcName.means s₀.heap) (mg := mg) (mb := mb) n1 n2 n3 c1 c2 c3
        have hsame : ((⟨#[35, loDigit (n1 / 16), loDigit (n1 % 16), loDigit (n2 / 16), loDigit (n2 % 16), loDigit (n3 / 16), loDigit (n3 % 16)]⟩ : Str) != ⟨#[35, loDigit (n1 / 16), loDigit (n1 % 16), loDigit (n2 / 16), loDigit (n2 % 16), loDigit (n3 / 16), loDigit (n3 % 16)]⟩) = false := bne_self_eq_false' _
        k_steps
        refine Wrap.mk ?_
        dsimp only
        refine rest_any (fun v => ∃ n t, v = .int n t ∧ 0 ≤ n ∧ n ≤ 255) (fun v y => ∀ n t, v = .int n t → ∃ u, y = .str (⟨#[upDigit (n / 16), loDigit (n % 16)]⟩ : Str) u) ?hsc1 ⟨_, _, rfl, c1⟩ ⟨_, _, rfl, c2⟩ ⟨_, _, rfl, c3⟩ ?htc1 ?hfc1
        case hsc1 => first | exact Or.inr ⟨_, by k_mem, rfl, _, rfl⟩ | exact ⟨_, by k_mem, rfl, _, rfl⟩
        case htc1 =>
          clear hr hsame
          intro m9 s9 nw9 v ys I oI C oC D m₂ h tk E' hv hC hx' F1 N1 off ap
          obtain ⟨n, t, rfl, hn⟩ := hv
          k_steps
          exact ItemEnd.intro (fun _ _ e => by cases e; exact ⟨_, rfl⟩) (by assumption) (by assumption)
        intro y1 y2 y3 r1 r2 r3
        obtain ⟨ua, rfl⟩ := r1 _ _ rfl
        obtain ⟨ub, rfl⟩ := r2 _ _ rfl
        obtain ⟨uc, rfl⟩ := r3 _ _ rfl
        clear r1 r2 r3
        k_steps
        clear hr hsame
        refine Wrap.mk ?_
        with_reducible rename News _ _ _ _ => Nold
        replace Nold := pick1 (x := (l, listOf #[.int a ta, .int b tb] n)) Nold (by k_mem) (sub_skip (sub_skip (sub_keep (sub_skip (sub_skip (sub_keep (sub_keep sub_same)))))))
        have hl2 := off_src Nold (by (repeat (refine List.forall_mem_cons.mpr ⟨by first | exact .inr (by first | k_ne | (dsimp only; omega)) | exact .inl (by intro hq; first | exact absurd (Value.type.inj (congrArg Obj.cls hq)) (by decide) | cases hq), ?_⟩)); exact fun p hp => .inr (hlo9 p hp))
        (k_dflt (refine LCg.Assign_ListComp_U (F₀ := by k_asm) (by rfl) (by with_unfolding_all rfl) (by with_unfolding_all rfl) (by decide) (by rfl) (by decide) (by rfl) (by rfl) (by rfl) ?_)); (k_dflt lcg_toSrc); refine Wrap.mk ?_
        refine src_turns (fun y => ∃ n t, y = .int n t ∧ 0 ≤ n ∧ n ≤ 15) l ?_ hl2 3 ?_ 3 0 [] _ _ _ _ _ rfl (by simp) ha hb
        · intro a b ta tb n ys I oI C oC D m₂ h tk E' ha hb hC F N off
          k_steps
          refine' SrcEnd.intro ?e12 ?e22 ?e32 ?e42 ?e52 ?e62
          case e52 => assumption
          case e42 => assumption
          case e22 => assumption
          case e32 => assumption
          case e62 => exact (fun p hp => by repeat (first | exact hp | refine List.mem_cons_of_mem _ ?_))
          exact ⟨_, _, rfl, by omega⟩
        · intro ys a b ta tb n hy hP ha hb
          obtain ⟨y1, y2, y3, rfl⟩ := three_of hy
          obtain ⟨m1, w1, rfl, d1⟩ := hP _ (List.Mem.head _)
          obtain ⟨m2, w2, rfl, d2⟩ := hP _ (List.Mem.tail _ (List.Mem.head _))
          obtain ⟨m3, w3, rfl, d3⟩ := hP _ (List.Mem.tail _ (List.Mem.tail _ (List.Mem.head _)))
          clear hP hy
          have hr := reads_hash3 (w := w) (mean := ExcName.means s₀.heap) (mg := mg) (mb := mb) m1 m2 m3 d1 d2 d3
          k_steps
          refine Wrap.mk ?_
          dsimp only
          refine rest_any (fun v => ∃ n t, v = .int n t ∧ 0 ≤ n ∧ n ≤ 15) (fun v y => ∀ n t, v = .int n t → ∃ u, y = .str (Txt.item (Str.ofString "0123456789abcdef") n) u) ?hsc2 ⟨_, _, rfl, d1⟩ ⟨_, _, rfl, d2⟩ ⟨_, _, rfl, d3⟩ ?htc2 ?hfc2
          case hsc2 => first | exact Or.inr ⟨_, by k_mem, rfl, _, rfl⟩ | exact ⟨_, by k_mem, rfl, _, rfl⟩
          case htc2 =>
            clear hr
            intro m9 s9 nw9 v ys I oI C oC D m₂ h tk E' hv hC hx' F1 N1 off ap
            obtain ⟨n, t, rfl, hn⟩ := hv
            k_steps
            exact ItemEnd.intro (fun _ _ e => by cases e; exact ⟨_, rfl⟩) (by assumption) (by assumption)
          intro y1 y2 y3 r1 r2 r3
          obtain ⟨ua, rfl⟩ := r1 _ _ rfl
          obtain ⟨ub, rfl⟩ := r2 _ _ rfl
          obtain ⟨uc, rfl⟩ := r3 _ _ rfl
          clear r1 r2 r3
          k_steps
          refine Wrap.mk ?_
          dsimp only
          refine rest_any (fun v => ∃ n t, v = .int n t ∧ True) (fun v y => ∀ n t, v = .int n t → ∃ u, y = .int (17 * n) u) ?hsc3 ⟨_, _, rfl, trivial⟩ ⟨_, _, rfl, trivial⟩ ⟨_, _, rfl, trivial⟩ ?htc3 ?hfc3
          case hsc3 => first | exact Or.inr ⟨_, by k_mem, rfl, _, rfl⟩ | exact ⟨_, by k_mem, rfl, _, rfl⟩
          case htc3 =>
            clear hr
            intro m9 s9 nw9 v ys I oI C oC D m₂ h tk E' hv hC hx' F1 N1 off ap
            obtain ⟨n, t, rfl, hn⟩ := hv
            k_steps
            exact ItemEnd.intro (fun _ _ e => by cases e; exact ⟨_, rfl⟩) (by assumption) (by assumption)
          intro y1 y2 y3 r1 r2 r3
          obtain ⟨ua, rfl⟩ := r1 _ _ rfl
          obtain ⟨ub, rfl⟩ := r2 _ _ rfl
          obtain ⟨uc, rfl⟩ := r3 _ _ rfl
          clear r1 r2 r3
          k_steps
          clear hr d1 d2 d3
          refine Wrap.mk ?_
          with_reducible rename News _ _ _ _ => Nold
          replace Nold := pick1 (x := (l, listOf #[.int a ta, .int b tb] n)) Nold (by k_mem) (sub_skip (sub_skip (sub_skip (sub_skip (sub_skip (sub_skip (sub_keep (sub_keep (sub_keep sub_same)))))))))
          refine' (parts_right0 _ _ _ _ _ _ _ hl2 ha hb) _ _ _ _ _ _ _ _ _ _ _ _ _ _ _ _ _ ?q1 ?q2 ?q3 ?q4 ?q5 ?qK ?qd ?qu ?_
          case q1 => k_asm
          case q2 => k_asm
          case q3 => k_asm
          case q4 => exact Nold
          case q5 => k_asm
          case qK => exact rfl
          case qd => ktr_room
          case qu => ktr_units
          clear Nold ha hb
          intro a b ta tb n h9 tk9 ha hb1 hb2 F9 N9
          have hb := And.intro hb1 hb2
          k_steps
          refine Wrap.mk ?_
          with_reducible rename News _ _ _ _ => Nold
          refine' (named_right0 _ _ _ _ _ _ _ hl2 ha hb) _ _ _ _ _ _ _ _ _ _ _ _ _ _ _ _ ?r1 ?r2 ?r3 ?r4 ?r5 ?rK ?rd ?ru ?rX ?rT ?_
          case r1 => k_asm
          case r2 => k_asm
          case r3 => k_asm
          case r4 => exact Nold
          case r5 => k_asm
          case rK => exact rfl
          case rd => ktr_room
          case ru => ktr_units
          case rX => exact KX
          case rT => exact TT
          clear Nold ha hb hb1 hb2
          (repeat (with_reducible rename Fr _ _ _ _ => z9; clear z9))
          (repeat (with_reducible rename News _ _ _ _ => z9; clear z9))
          (repeat (with_reducible rename LCg.NsObj _ _ => z9; clear z9))
          (repeat (with_reducible rename Apart3 _ _ _ => z9; clear z9))
          (repeat (with_reducible rename (_ : Option Value) = some _ => z9; clear z9))
          intro a b ta tb n h9 tk9 ha hb1 hb2 F9 N9
          have hb := And.intro hb1 hb2
          k_steps
          refine Wrap.mk ?_
          refine' (premul_0 n1 n2 n3 _ u1 u2 u3 _ _ _ ?vm c1 c2 c3 ?va) _ _ _ _ _ _ _ _ _ _ _ _ _ _ _ _ _ ?v1 ?v2 ?v3 ?v4 ?v5 ?vK ?vd ?vu ?_
          case v1 => k_asm
          case v2 => k_asm
          case v3 => k_asm
          case v4 => k_asm
          case v5 => k_asm
          case vK => exact rfl
          case vm => k_mem
          case va => assumption
          case vd => ktr_room
          case vu => ktr_units
          intro x9 t91 t92 t93 t94 h9 tk9 F9 N9 l9; (try k_lt l9)
          k_steps
          with_reducible rename (0 : Int) ≤ _ ∧ _ ≤ (255 : Int) => hcal
          refine Wrap.mk ?_
          dsimp only
          refine rest_three (fun v => ∃ n t, v = .int n t ∧ True) (Rof hcal) ?hsc4 ⟨_, _, rfl, trivial⟩ ⟨_, _, rfl, trivial⟩ ⟨_, _, rfl, trivial⟩ ?htc4 ?hfc4
          case hsc4 => first | exact Or.inr ⟨_, by k_mem, rfl, _, rfl⟩ | exact ⟨_, by k_mem, rfl, _, rfl⟩
          case htc4 =>
            intro v ys I oI C oC D m₂ h tk E' hv hC hx' F1 N1 off ap
            obtain ⟨n, t, rfl, hn⟩ := hv
            k_steps
            exact ItemEnd.intro (fun _ _ e => by cases e; exact ⟨_, rfl⟩) (by assumption) (by assumption)
          intro y1 y2 y3 r1 r2 r3
          obtain ⟨ua, rfl⟩ := r1 _ _ rfl
          obtain ⟨ub, rfl⟩ := r2 _ _ rfl
          obtain ⟨uc, rfl⟩ := r3 _ _ rfl
          clear r1 r2 r3
          k_steps
          refine Wrap.mk ?_
          refine' (premul_255 n1 n2 n3 u1 u2 u3 _ _ _ ?wm c1 c2 c3) _ _ _ _ _ _ _ _ _ _ _ _ _ _ _ _ _ ?w1 ?w2 ?w3 ?w4 ?w5 ?wK ?wd ?wu ?_
          case w1 => k_asm
          case w2 => k_asm
          case w3 => k_asm
          case w4 => k_asm
          case w5 => k_asm
          case wK => exact rfl
          case wm => k_mem
          case wd => ktr_room
          case wu => ktr_units
          intro x9 t91 t92 t93 t94 h9 tk9 F9 N9 l9; (try k_lt l9)
          k_steps
          refine Wrap.mk ?_
          refine' (premul_back _ _ _ n1 n2 n3 _ _ _ _ _ _ _ ?xm ?xh1 ?xh2 ?xh3 ?xa) _ _ _ _ _ _ _ _ _ _ _ _ _ _ _ _ _ ?x1 ?x2 ?x3 ?x4 ?x5 ?xK ?xd ?xu ?_
          case x1 => k_asm
          case x2 => k_asm
          case x3 => k_asm
          case x4 => k_asm
          case x5 => k_asm
          case xK => exact rfl
          case xm => k_mem
          case xh1 => assumption
          case xh2 => assumption
          case xh3 => assumption
          case xa => assumption
          case xd => ktr_room
          case xu => ktr_units
          intro x9 t91 t92 t93 t94 h9 tk9 F9 N9 l9; (try k_lt l9)
          (repeat (with_reducible rename BackOf _ _ _ => z9; clear z9))
          (repeat (with_reducible rename (_ ∧ _ ∧ _ ∧ _) => z9; clear z9))
          (repeat (with_reducible rename LCg.Off3 _ _ _ _ => z9; clear z9))
          (repeat (with_reducible rename LCg.Off1 _ _ => z9; clear z9))
          with_reducible rename (0 : Int) ≤ _ ∧ _ ≤ (255 : Int) => hc9n
          obtain ⟨hw1, hw2, hw3⟩ := self_of hc9n
          k_steps
          refine Wrap.mk ?_
          refine' (weighted_is _ _ _ _ ?zaa ?zab _) _ _ _ _ _ _ _ _ _ _ _ _ _ _ _ _ _ ?za1 ?za2 ?za3 ?za4 ?za5 ?zaK ?zad ?zau ?_
          case za1 => k_asm
          case za2 => k_asm
          case za3 => k_asm
          case za4 => k_asm
          case za5 => k_asm
          case zaK => exact rfl
          case zaa => first | assumption | decide
          case zab => first | assumption | decide
          case zad => ktr_room
          case zau => ktr_units
          intro t9 h9 tk9 F9 N9
          k_steps
          · exact absurd hw1 (by assumption)
          refine Wrap.mk ?_
          refine' (weighted_is _ _ _ _ ?zba ?zbb _) _ _ _ _ _ _ _ _ _ _ _ _ _ _ _ _ _ ?zb1 ?zb2 ?zb3 ?zb4 ?zb5 ?zbK ?zbd ?zbu ?_
          case zb1 => k_asm
          case zb2 => k_asm
          case zb3 => k_asm
          case zb4 => k_asm
          case zb5 => k_asm
          case zbK => exact rfl
          case zba => first | assumption | decide
          case zbb => first | assumption | decide
          case zbd => ktr_room
          case zbu => ktr_units
          intro t9 h9 tk9 F9 N9
          k_steps
          · exact absurd hw2 (by assumption)
          (repeat (with_reducible rename (_ : Int) = _ => z9; clear z9))
          refine Wrap.mk ?_
          refine' (weighted_0 _ _ _ ?zca _) _ _ _ _ _ _ _ _ _ _ _ _ _ _ _ _ _ ?zc1 ?zc2 ?zc3 ?zc4 ?zc5 ?zcK ?zcd ?zcu ?_
          case zc1 => k_asm
          case zc2 => k_asm
          case zc3 => k_asm
          case zc4 => k_asm
          case zc5 => k_asm
          case zcK => exact rfl
          case zca => first | assumption | decide
          case zcd => ktr_room
          case zcu => ktr_units
          intro t9 h9 tk9 F9 N9
          have hAt : AtOdds := ⟨⟩
          k_steps
          refine Wrap.mk ?_
          with_reducible rename News _ _ _ _ => Nold
          replace Nold := pick1 (x := (l, listOf #[.int _ _, .int _ _] _)) Nold (by k_mem) (sub_skip (sub_skip (sub_skip (sub_skip (sub_skip (sub_skip (sub_skip (sub_skip (sub_skip (sub_skip (sub_skip (sub_keep (sub_keep (sub_keep sub_same))))))))))))))
          with_reducible rename AtOdds => z9
          clear z9
          have e1 := hl2 _ (List.Mem.head _)
          have e2 := hl2 _ (List.Mem.tail _ (List.Mem.head _))
          have e3 := hl2 _ (List.Mem.tail _ (List.Mem.tail _ (List.Mem.head _)))
          dsimp only at e1 e2 e3
          with_reducible rename Fr _ _ _ _ => Fk
          revert Fk Nold
          (repeat (with_reducible rename Fr _ _ _ _ => z9; clear z9))
          (repeat (with_reducible rename News _ _ _ _ => z9; clear z9))
          (repeat (with_reducible rename LCg.NsObj _ _ => z9; clear z9))
          (repeat (with_reducible rename Apart3 _ _ _ => z9; clear z9))
          (repeat (with_reducible rename BackOf _ _ _ => z9; clear z9))
          (repeat (with_reducible rename (_ ∧ _ ∧ _ ∧ _) => z9; clear z9))
          (repeat (with_reducible rename LCg.Off3 _ _ _ _ => z9; clear z9))
          (repeat (with_reducible rename LCg.Off1 _ _ => z9; clear z9))
          (repeat (with_reducible rename (_ : Option Value) = some _ => z9; clear z9))
          clear c1 c2 c3
          intro Fk Nold
          k_steps
          refine Wrap.mk ?_
          refine' (refused_is _ _ ?yb _) _ _ _ _ _ _ _ _ _ _ _ _ _ _ _ _ _ ?y1 ?y2 ?y3 ?y4 ?y5 ?yK ?yd ?yu ?yX ?yT ?yD ?_
          case y1 => k_asm
          case y2 => k_asm
          case y3 => k_asm
          case y4 => k_asm
          case y5 => k_asm
          case yK => exact rfl
          case yb => exact odd_getD (by first | assumption | omega)
          case yX => exact KX
          case yT => exact TT
          case yD => exact ktsDicts_nil
          case yd => ktr_room
          case yu => ktr_units
          (repeat (with_reducible rename Fr _ _ _ _ => z9; clear z9))
          (repeat (with_reducible rename News _ _ _ _ => z9; clear z9))
          intro h9 tk9 g9 T9 F9 N9 B9 X9 P9 D9
          replace F9 := turn_fr T9 F9
          replace N9 := turn_news T9 N9
          clear B9 X9 P9 D9 T9
          k_steps
          k_dflt (refine' CellPost.next (o1 := _) (o2 := _) F9 N9 ?t1 ?t2 ?t3 ?t4 ?t5 ?t6)
          case t2 => k_mem
          case t3 => k_mem
          case t4 => exact (fun p hp => by repeat (first | exact hp | refine List.mem_cons_of_mem _ ?_))
          case t1 => with_unfolding_all rfl
          case t5 => exact ⟨_, by assumption⟩
          case t6 => exact ⟨_, by assumption⟩
  )
end

end Mine
end

set_option maxRecDepth 100000 in
set_option maxHeartbeats 8000000 in
theorem PySem.Challenge.cw_nu0021_01_holds : PySem.Challenge.rw_nu0021_01.Holds := by
  exact Mine.lawT
