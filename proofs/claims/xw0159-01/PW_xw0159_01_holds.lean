import PyProof.Rows.All
import Wide.All
import OpenK.AllK
import Wide.FinOn
import PySem.Challenge.RW_xw0159_01
open PySem PySem.W PyProof.Rows
set_option Elab.async false
set_option compiler.extract_closed false
set_option genSizeOf false
set_option maxRecDepth 100000
set_option linter.unusedVariables false
set_option linter.unusedSimpArgs false
/-! HD -/
section SHD
namespace Mine

noncomputable def viewOf (l : List Stmt) : List Stmt := ([0, 2, 3, 5, 6, 7, 8, 9, 10, 11, 12, 14, 15, 16, 17, 19, 20, 22, 23, 24, 25, 26, 27, 28, 29] : List Nat).filterMap (l[·]?)
noncomputable def theView : Program := { Challenge.rw_xw0159_01.row.toRowW.prog with main := { Challenge.rw_xw0159_01.row.toRowW.prog.main with body := viewOf Challenge.rw_xw0159_01.row.toRowW.prog.main.body } }
theorem headLem (H : Hook) {d : DefRec} {kwd : List (PySem.Str × PySem.Expr)}
    (hl : LeftO Challenge.rw_xw0159_01.row.prog theView [PySem.Str.ofString "LendError", PySem.Str.ofString "Adt"] (fun s => xlAt theView [] s && recOk (RowW.records Challenge.rw_xw0159_01.row.toRowW) s) (Hook.obs H) (Hook.val H) 3268)
    (hdef : defOf theView Challenge.rw_xw0159_01.row.name = some (d, kwd)) (hp : Challenge.rw_xw0159_01.row.prog.theDef Challenge.rw_xw0159_01.row.name = some (d.params, d.body, d.scope)) (hk : kwWritten? d.params.kwonlyargs d.params.kw_defaults = some kwd)
    (hw : Challenge.rw_xw0159_01.row.toRowW.promised)
    (hc : WalkO theView [PySem.Str.ofString "LendError", PySem.Str.ofString "Adt"] (XL theView []) (Hook.says H) Challenge.rw_xw0159_01.row.toRowW d kwd fun f vs => PySem.call f vs) : Challenge.rw_xw0159_01.row.Holds :=
  holds_open (q := theView) (loose := [PySem.Str.ofString "LendError", PySem.Str.ofString "Adt"]) (Xt := fun s => xlAt theView [] s && recOk (RowW.records Challenge.rw_xw0159_01.row.toRowW) s) (XP := XL theView []) (Yf := Hook.obs H) (Ya := Hook.val H) (YP := Hook.says H) (N := 3268) hl (Hook.of H) (Hook.keeps H) (fun s e => xl_of s (Bool.and_eq_true_iff.mp e).1) XL.keeps hdef hp hk (fun s e => recFacts_of (Bool.and_eq_true_iff.mp e).2) (by rfl) (by decide +kernel) (by decide +kernel) ⟨rfl, rfl, rfl, rfl, rfl, by decide +kernel⟩ hw hc
set_option hygiene false in
local macro_rules | `(tactic| o_head $H) => `(tactic| (refine headLem $H ?hl (by rfl) (by rfl) (by rfl) ?hw ?hc; (case hl => intro w; kernel_rfl)))
theorem lawSaid : OpenLaw.wellSaid PySem.Challenge.rw_xw0159_01 = true := by decide +kernel
local macro_rules | `(tactic| o_law) => `(tactic| refine holds_law lawSaid fun _ => ?_)
set_option maxRecDepth 100000 in
set_option maxHeartbeats 8000000 in
open_top hd for PySem.Challenge.rw_xw0159_01
/-- the walk's top is turned off again: what stands below walks inside -/
theorem topOff : True := by
  w_top off
  trivial
end Mine
end SHD
/-! L0 -/
section SL0
open PySem.Spec PySem.Calls
namespace Mine
noncomputable abbrev tupO (vs : List Value) (n : Nat) : Obj := { cls := .type "tuple", data := .seq vs.toArray n }
/-- the types that the law builds -/
inductive Ty where
  | bool | u8
  | par (x : Str)
  | box (t : Ty)
  | rf (r : Str) (t : Ty)
  | arr (n : Int) (t : Ty)
  | tup1 (t : Ty)
  | tup2 (t : Ty)
  | adtS (t : Ty)
  | adtR (r : Str) (t : Ty)
  deriving DecidableEq
noncomputable def Ty.parts : Ty → List Ty
  | .bool | .u8 | .par _ => []
  | .box t | .rf _ t | .arr _ t | .tup1 t | .adtS t | .adtR _ t => [t]
  | .tup2 t => [.u8, t]
noncomputable def Ty.depth : Ty → Nat
  | .bool | .u8 | .par _ => 1
  | .box t | .rf _ t | .arr _ t | .tup1 t | .tup2 t | .adtS t | .adtR _ t => t.depth + 1
/-- the ledger bears a type at a value -/
inductive TyIn (news : List (Addr × Obj)) : Value → Ty → Prop
  | bool {a : Addr} {k : Tok} {n : Nat} : (a, tupO [.str (Str.ofString "bool") k] n) ∈ news → TyIn news (.ref a) .bool
  | u8 {a : Addr} {k k' : Tok} {n : Nat} : (a, tupO [.str (Str.ofString "int") k, .str (Str.ofString "u8") k'] n) ∈ news → TyIn news (.ref a) .u8
  | par {a : Addr} {x : Str} {k k' : Tok} {n : Nat} : (a, tupO [.str (Str.ofString "param") k, .str x k'] n) ∈ news → TyIn news (.ref a) (.par x)
  | box {a : Addr} {v : Value} {t : Ty} {k : Tok} {n : Nat} : (a, tupO [.str (Str.ofString "box") k, v] n) ∈ news → TyIn news v t → TyIn news (.ref a) (.box t)
  | rf {a : Addr} {r : Str} {v : Value} {t : Ty} {k k' : Tok} {n : Nat} : (a, tupO [.str (Str.ofString "ref") k, .str r k', .bool false, v] n) ∈ news → TyIn news v t → TyIn news (.ref a) (.rf r t)
  | arr {a : Addr} {i : Int} {v : Value} {t : Ty} {k k' : Tok} {n : Nat} : (a, tupO [.str (Str.ofString "array") k, v, .int i k'] n) ∈ news → TyIn news v t → TyIn news (.ref a) (.arr i t)
  | tup1 {a b : Addr} {v : Value} {t : Ty} {k : Tok} {n n' : Nat} : (a, tupO [.str (Str.ofString "tuple") k, .ref b] n) ∈ news → (b, tupO [v] n') ∈ news → TyIn news v t → TyIn news (.ref a) (.tup1 t)
  | tup2 {a b : Addr} {v v' : Value} {t' : Ty} {k : Tok} {n n' : Nat} : (a, tupO [.str (Str.ofString "tuple") k, .ref b] n) ∈ news → (b, tupO [v, v'] n') ∈ news → TyIn news v .u8 → TyIn news v' t' → TyIn news (.ref a) (.tup2 t')
  | adtS {a b c : Addr} {v : Value} {t : Ty} {k k' : Tok} {n n' n'' : Nat} : (a, tupO [.str (Str.ofString "adt") k, .str (Str.ofString "S") k', .ref b, .ref c] n) ∈ news → (b, tupO [] n') ∈ news → (c, tupO [v] n'') ∈ news → TyIn news v t → TyIn news (.ref a) (.adtS t)
  | adtR {a b c : Addr} {r : Str} {v : Value} {t : Ty} {k k' k'' : Tok} {n n' n'' : Nat} : (a, tupO [.str (Str.ofString "adt") k, .str (Str.ofString "R") k', .ref b, .ref c] n) ∈ news → (b, tupO [.str r k''] n') ∈ news → (c, tupO [v] n'') ∈ news → TyIn news v t → TyIn news (.ref a) (.adtR r t)
inductive TyAll (news : List (Addr × Obj)) : List Value → List Ty → Prop
  | nil : TyAll news [] []
  | cons {v : Value} {t : Ty} {vs : List Value} {ts : List Ty} : TyIn news v t → TyAll news vs ts → TyAll news (v :: vs) (t :: ts)
theorem TyIn.mono {news news' : List (Addr × Obj)} {v : Value} {t : Ty} (h : TyIn news v t) (hs : ∀ p ∈ news, p ∈ news') : TyIn news' v t := by
  induction h with
  | bool a => exact .bool (hs _ a)
  | u8 a => exact .u8 (hs _ a)
  | par a => exact .par (hs _ a)
  | box a _ ih => exact .box (hs _ a) ih
  | rf a _ ih => exact .rf (hs _ a) ih
  | arr a _ ih => exact .arr (hs _ a) ih
  | tup1 a b _ ih => exact .tup1 (hs _ a) (hs _ b) ih
  | tup2 a b _ _ ih ih' => exact .tup2 (hs _ a) (hs _ b) ih ih'
  | adtS a b c _ ih => exact .adtS (hs _ a) (hs _ b) (hs _ c) ih
  | adtR a b c _ ih => exact .adtR (hs _ a) (hs _ b) (hs _ c) ih
theorem TyAll.mono {news news' : List (Addr × Obj)} {vs : List Value} {ts : List Ty} (h : TyAll news vs ts) (hs : ∀ p ∈ news, p ∈ news') : TyAll news' vs ts := by
  induction h with
  | nil => exact .nil
  | cons a _ ih => exact .cons (a.mono hs) ih
theorem TyIn.app {news tl : List (Addr × Obj)} {v : Value} {t : Ty} (h : TyIn news v t) : TyIn (news ++ tl) v t := h.mono fun _ hp => List.mem_append.mpr (.inl hp)
theorem TyAll.app {news tl : List (Addr × Obj)} {vs : List Value} {ts : List Ty} (h : TyAll news vs ts) : TyAll (news ++ tl) vs ts := h.mono fun _ hp => List.mem_append.mpr (.inl hp)
theorem TyAll.len {news : List (Addr × Obj)} {vs : List Value} {ts : List Ty} (h : TyAll news vs ts) : vs.length = ts.length := by
  induction h with
  | nil => rfl
  | cons _ _ ih => simp [ih]

/-! lists as sets -/
section
variable {α : Type} {x y a b c : α} {l r news : List α}
theorem memTail (h : x ∈ l) : x ∈ y :: l := .tail _ h
theorem memL (h : x ∈ l) : x ∈ l ++ r := List.mem_append.mpr (.inl h)
theorem memR (h : x ∈ r) : x ∈ l ++ r := List.mem_append.mpr (.inr h)
end

/-! a contract: what a def gives back, of a ledger split in two: what stands aside, and what the datum is said over -/
structure ToldX (D : Type) where
  Rel : List (Addr × Obj) → List (Addr × Obj) → List Value → D → Prop
  size : D → Nat
  Out : List (Addr × Obj) → Value → D → Prop

noncomputable def TellsX {D : Type} (prog : Program) (w : World) (K : Frag) (p : Program) (loose : List Str) (mean : ExcName → Option Value) (mg mb : Str → Option Value) (f : Addr) (c : ToldX D) (d : D) : Prop :=
  ∀ (dp un : Nat) (gd : Option (List Code)) (cn : Str) (cs : Scope) (a : Addr) (ccd : Value) (cl : List (Str × Addr)) (outer : List Env) (A₀ : Around) (base h₀ : Heap) (L : Addr) (m : Str → Option Value) (ext news : List (Addr × Obj)) (s : Shared) (vs : List Value)
    (Q E : Value → Shared → Prop),
    Below A₀ base outer h₀ → Fr h₀ L s.heap m → K.In h₀ → News h₀ L s.heap (ext ++ news) → Top p loose mean mg mb h₀ → cs.kind = .function → c.Rel (ext ++ news) news vs d → dp + c.size d < recursionLimit → un + 8 * c.size d < cLine →
    (∀ r tl h' tk', Fr h₀ L h' m → News h₀ L h' (ext ++ (news ++ tl)) → (∀ q ∈ ext ++ news, ∀ p ∈ tl, q.1 < p.1) → c.Out (news ++ tl) r d → Q r { s with heap := h', toks := tk' }) →
    wpAny (model prog w) (ktrTop dp un gd cn cs L a ccd cl outer) (call (.ref f) vs) Q E s

theorem nsub {h₀ h : Heap} {L : Addr} {l l' : List (Addr × Obj)} (N : News h₀ L h l) (hs : ∀ p ∈ l', p ∈ l) : News h₀ L h l' := fun p hp => N p (hs p hp)
section
variable {D : Type} {prog : Program} {w : World} {K : Frag} {p : Program} {loose : List Str} {mean : ExcName → Option Value} {mg mb : Str → Option Value} {f : Addr} {c : ToldX D}
theorem tellsX_of (step : ∀ d, (∀ d', c.size d' < c.size d → TellsX prog w K p loose mean mg mb f c d') → TellsX prog w K p loose mean mg mb f c d) : ∀ d, TellsX prog w K p loose mean mg mb f c d := by
  have all : ∀ n, ∀ d, c.size d < n → TellsX prog w K p loose mean mg mb f c d := by
    intro n
    induction n with
    | zero => intro d h; exact absurd h (Nat.not_lt_zero _)
    | succ n ih => exact fun d h => step d fun d' h' => ih d' (Nat.lt_of_lt_of_le h' (Nat.le_of_lt_succ h))
  exact fun d => all _ d (Nat.lt_succ_self _)
/-- the call: the whole ledger `all` is kept; the datum is said over `core` -/
theorem tellsX_use {d : D} {dp un : Nat} {gd : Option (List Code)} {cn : Str} {cs : Scope} {a : Addr} {ccd : Value} {cl : List (Str × Addr)} {outer : List Env} {A₀ : Around} {base h₀ : Heap} {L : Addr} {m : Str → Option Value} {all : List (Addr × Obj)} {s : Shared} {vs : List Value}
    {Q E : Value → Shared → Prop} (core : List (Addr × Obj)) (B : Below A₀ base outer h₀) (F : Fr h₀ L s.heap m) (X : K.In h₀) (N : News h₀ L s.heap all) (T : Top p loose mean mg mb h₀) (hk : cs.kind = .function) (C : TellsX prog w K p loose mean mg mb f c d)
    (hs : ∀ p ∈ core, p ∈ all) (R : c.Rel (all ++ core) core vs d)
    (hd : dp + c.size d < recursionLimit) (hu : un + 8 * c.size d < cLine)
    (ret : ∀ r tl h' tk', Fr h₀ L h' m → News h₀ L h' (all ++ tl) → (∀ q ∈ all, ∀ p ∈ tl, q.1 < p.1) → c.Out (core ++ tl) r d → Q r { s with heap := h', toks := tk' }) :
    wpAny (model prog w) (ktrTop dp un gd cn cs L a ccd cl outer) (call (.ref f) vs) Q E s :=
  C _ _ _ _ _ _ _ _ _ _ _ _ _ _ all core _ _ _ _ B F X (fun p hp => N p ((List.mem_append.mp hp).elim id (hs p))) T hk R hd hu fun r tl h' tk' F' N' o out =>
    ret r tl h' tk' F' (fun p hp => N' p ((List.mem_append.mp hp).elim (fun h => memL h) fun h => memR (memR h))) (fun q hq => o q (memL hq)) out
end

section
variable {h₀ h : Heap} {L d d' : Addr} {q q1 q2 q3 q4 x : Addr × Obj} {ext news : List (Addr × Obj)}
theorem nz0 (N : News h₀ L h (ext ++ news)) : News h₀ L h (ext ++ (news ++ [])) := by rw [List.append_nil]; exact N
theorem nz1 (N : News h₀ L h (q1 :: (ext ++ news))) : News h₀ L h (ext ++ (news ++ [q1])) := nsub N fun p hp => by simp at hp ⊢; rcases hp with h | h | h <;> simp [h]
theorem nz2 (N : News h₀ L h (q1 :: q2 :: (ext ++ news))) : News h₀ L h (ext ++ (news ++ [q1, q2])) := nsub N fun p hp => by simp at hp ⊢; rcases hp with h | h | h | h <;> simp [h]
theorem od1 (h1 : ∀ p ∈ news, p.1 < q1.1) : ∀ q ∈ news, ∀ p ∈ [q1], q.1 < p.1 := fun q hq p hp => by simp at hp; rw [hp]; exact h1 q hq
theorem od2 (h1 : ∀ p ∈ news, p.1 < q1.1) (h2 : ∀ p ∈ news, p.1 < q2.1) : ∀ q ∈ news, ∀ p ∈ [q1, q2], q.1 < p.1 := fun q hq p hp => by
  simp at hp
  rcases hp with rfl | rfl
  · exact h1 q hq
  · exact h2 q hq
theorem lt1 (h : ∀ p ∈ x :: news, p.1 < d) : ∀ p ∈ news, p.1 < d := fun p hp => h p (.tail _ hp)
theorem lt2 (h : ∀ p ∈ x :: q :: news, p.1 < d) : ∀ p ∈ news, p.1 < d := fun p hp => h p (.tail _ (.tail _ hp))
theorem mA {α : Type} {news : List α} {a : α} : a ∈ news ++ [a] := by simp
theorem mB {α : Type} {news : List α} {a b : α} : a ∈ news ++ [a, b] := by simp
theorem mC {α : Type} {news : List α} {a b : α} : b ∈ news ++ [a, b] := by simp
theorem ordW {tl : List (Addr × Obj)} (k : ∀ q ∈ x :: news, ∀ p ∈ tl, q.1 < p.1) : ∀ q ∈ news, ∀ p ∈ tl, q.1 < p.1 := fun q hq => k q (.tail _ hq)
theorem ordS {l l' tl : List (Addr × Obj)} (k : ∀ q ∈ l, ∀ p ∈ tl, q.1 < p.1) (hs : ∀ p ∈ l', p ∈ l) : ∀ q ∈ l', ∀ p ∈ tl, q.1 < p.1 := fun q hq => k q (hs q hq)
theorem ordA {t1 t2 : List (Addr × Obj)} (h1 : ∀ q ∈ news, ∀ p ∈ t1, q.1 < p.1) (h2 : ∀ q ∈ news, ∀ p ∈ t2, q.1 < p.1) : ∀ q ∈ news, ∀ p ∈ t1 ++ t2, q.1 < p.1 := fun q hq p hp =>
  (List.mem_append.mp hp).elim (h1 q hq p) (h2 q hq p)
theorem ord0 {news : List (Addr × Obj)} : ∀ q ∈ news, ∀ p ∈ ([] : List (Addr × Obj)), q.1 < p.1 := fun _ _ _ h => nomatch h
theorem my_isList {a : Addr} {vs : List Value} {n : Nat} (N : News h₀ L h news) (hm : (a, listOf vs.toArray n) ∈ news) : h.IsList a vs.toArray := ⟨_, (N _ hm).1, rfl, n, rfl⟩
end
section
variable {prog : Program} {w : World} {A : Around} {E : Value → Shared → Prop} {s : Shared} {h₀ : Heap} {L : Addr} {m : Str → Option Value} {env : Env}
noncomputable def TupSrc (prog : Program) (w : World) (A : Around) (h₀ : Heap) (L : Addr) (m : Str → Option Value) (env : Env) (elt : Expr) (x : Str) (scope : Scope) (cl : List (Str × Addr)) (Fin : Shared → List Value → List (Addr × Obj) → Prop) (xv : Value) (s₁ : Shared) : Prop :=
  ∃ ax its n news, xv = .ref ax ∧ A.handled = none ∧ Fr h₀ L s₁.heap m ∧ News h₀ L s₁.heap news ∧ (ax, tupO its n) ∈ news ∧ its.length ≤ sizeLine ∧
    ∀ h : Heap, LCg.CompRest prog w A h₀ L m env elt x scope cl { s₁ with heap := h } (fun nw => (ax, tupO its n) ∈ nw) (fun i v => its.toArray[i]? = some v) (Fin { s₁ with heap := h }) its.toArray.size 0 [] news
theorem TupSrc.mk {elt : Expr} {x : Str} {scope : Scope} {cl : List (Str × Addr)} {Fin : Shared → List Value → List (Addr × Obj) → Prop} {s₁ : Shared} {ax : Addr} {its : List Value} {n : Nat} {news : List (Addr × Obj)}
    (hh : A.handled = none) (F : Fr h₀ L s₁.heap m) (N : News h₀ L s₁.heap news) (hm : (ax, tupO its n) ∈ news) (hsz : its.length ≤ sizeLine)
    (h : ∀ h : Heap, LCg.CompRest prog w A h₀ L m env elt x scope cl { s₁ with heap := h } (fun nw => (ax, tupO its n) ∈ nw) (fun i v => its.toArray[i]? = some v) (Fin { s₁ with heap := h }) its.toArray.size 0 [] news) :
    TupSrc prog w A h₀ L m env elt x scope cl Fin (.ref ax) s₁ := ⟨ax, its, n, news, rfl, hh, F, N, hm, hsz, h⟩

theorem ListComp_Tup {elt iter : Expr} {x : Str} {px : Pos} {scope : Scope} {cl : List (Str × Addr)} {pos : Pos} {Q : Value → Shared → Prop} (F₀ : Fr h₀ L s.heap m)
    (hclos : closureFor scope env = pure cl) (hcell : ∀ y ∈ scope.names, y.2 ≠ .cell) (hkind : scope.kind = .function)
    (hnames : ∀ y ∈ scope.names, y.2 = .local → scope.names.lookup y.1 = some .local) (hx : scope.names.lookup x = some .local)
    (h : wpAny (model prog w) A (eval iter env) (TupSrc prog w A h₀ L m env elt x scope cl (fun s₂ => LCg.FinE h₀ L m s₂ Q)) E s)
    (hs : ∀ x, foldedSetIterable iter env x = pure x := by intro _; rfl) :
    wpAny (model prog w) A (eval (.ListComp elt [⟨.Name x px, iter, [], 0⟩] scope pos) env) Q E s := by
  rw [eval_ListComp]
  refine wpAny_comprehension_free (use := none) rfl hs hclos hkind hnames (wpAny_mono h (fun xv s₁ h₁ => ?_) fun _ _ e => e)
  obtain ⟨ax, its, n, news, rfl, hh, F, N, hm, hsz, R⟩ := h₁
  have hl : s₁.heap.IsTuple ax its.toArray := ⟨_, (N _ hm).1, rfl, n, rfl⟩
  have hlt : ax < s₁.heap.objs.size := by obtain ⟨_, e, _⟩ := hl; exact Heap.lt_size e
  refine wpAny_pyIter_tuple hl ?_
  have up : ∀ b o, s₁.heap.get? b = some o → (s₁.heap.push { cls := .type "tuple_iterator", data := .fields #[.ref ax, .int 0 0] }).get? b = some o := fun b o e => Heap.get?_push_of_some _ e
  refine LCg.block_U (S := fun nw => (ax, tupO its n) ∈ nw) (Walks.tuple hh s₁.heap.objs.size ax (Nat.ne_of_lt hlt) its.toArray) (by simpa using hsz) (fun i h st => by obtain ⟨o, e, _⟩ := st.1; exact ⟨o, e⟩)
    (fun i h h' o nw st e e' k N' S => ⟨by obtain ⟨o', q, r⟩ := st.1; rw [e] at q; cases q; exact ⟨o, e', r⟩, ⟨_, (N' _ S).1, rfl, n, rfl⟩⟩)
    hcell hkind hx ⟨⟨_, Heap.get?_push_size _ rfl, rfl, rfl⟩, hl.push _⟩ (fun b hb => ?_)
    (F.keeps up) (N.grown up) (Nat.ne_of_lt F.ns.lt) (next_is_new F) (fun p hp => Nat.ne_of_lt (Heap.lt_size (N p hp).1)) hm (R _) ?_
  · show b < (s₁.heap.push _).objs.size
    rw [Heap.size_push]
    rcases List.mem_cons.mp hb with rfl | hb
    · exact Nat.lt_succ_self _
    · rw [List.mem_singleton.mp hb]; exact Nat.lt_succ_of_lt hlt
  · intro D C h tk m' ys news' F' N' o1 hn hC₀ hD₀ hCL hDL hCD offC fin
    refine ⟨m', hn, fun h'' hs'' => fin D h'' tk (F'.change hs'' hCL hC₀) (fun p hp => ?_) o1⟩
    refine ⟨hs''.extBut _ _ ?_ (N' p hp).1, (N' p hp).2⟩
    rcases List.mem_cons.mp hp with rfl | hp
    · exact Ne.symm hCD
    · exact offC p hp
theorem compEnd_mk {I C D : Addr} {s₁ : Shared} {oI oC oD : Obj} {S : List (Addr × Obj) → Prop} {rest : Value → List (Addr × Obj) → Prop} {y : Value} {h' : Heap} {tk : Nat} {news' : List (Addr × Obj)}
    (F : Fr h₀ L h' m) (N : News h₀ L h' ((I, oI) :: (C, oC) :: (D, oD) :: news')) (off : LCg.Off3 I C D news') (hS : S news') (r : rest y news') :
    LCg.CompEnd h₀ L m s₁ I oI C oC D oD S rest y { s₁ with heap := h', toks := tk } := LCg.CompEnd.intro F N news' (fun _ hp => hp) off hS r
theorem off3_app {I C D : Addr} {oI oC oD : Obj} {news tl : List (Addr × Obj)} (h : LCg.Off3 I C D news) (k : ∀ q ∈ (I, oI) :: (C, oC) :: (D, oD) :: news, ∀ p ∈ tl, q.1 < p.1) : LCg.Off3 I C D (news ++ tl) :=
  LCg.Off3.of fun p hp => by
    rcases List.mem_append.mp hp with hp | hp
    · exact h.mem p hp
    · exact ⟨Nat.ne_of_gt (k (I, oI) (.head _) p hp), Nat.ne_of_gt (k (C, oC) (.tail _ (.head _)) p hp), Nat.ne_of_gt (k (D, oD) (.tail _ (.tail _ (.head _))) p hp)⟩
end
end Mine
namespace Mine
section
variable {α : Type} {x y : α} {l r l2 : List α}
theorem memHead : x ∈ x :: l := .head _
theorem subRefl : ∀ p ∈ l, p ∈ l := fun _ h => h
theorem subNil : ∀ p ∈ ([] : List α), p ∈ l := fun _ h => nomatch h
theorem subCons (h : x ∈ l2) (k : ∀ p ∈ r, p ∈ l2) : ∀ p ∈ x :: r, p ∈ l2 := fun p hp => by
  rcases List.mem_cons.mp hp with rfl | hp
  · exact h
  · exact k p hp
theorem subApp (h : ∀ p ∈ l, p ∈ l2) (k : ∀ p ∈ r, p ∈ l2) : ∀ p ∈ l ++ r, p ∈ l2 := fun p hp => (List.mem_append.mp hp).elim (h p) (k p)
theorem subTail (h : ∀ p ∈ l, p ∈ r) : ∀ p ∈ l, p ∈ y :: r := fun p hp => .tail _ (h p hp)
theorem subR (h : ∀ p ∈ l, p ∈ r) : ∀ p ∈ l, p ∈ l2 ++ r := fun p hp => memR (h p hp)
theorem subL (h : ∀ p ∈ l, p ∈ l2) : ∀ p ∈ l, p ∈ l2 ++ r := fun p hp => memL (h p hp)
end
end Mine
end SL0
/-! L2 -/
section SL2
open PySem.Spec PySem.Calls
namespace Mine
theorem memOf {α : Type} {x : α} {l l' : List α} (hs : ∀ p ∈ l, p ∈ l') (h : x ∈ l) : x ∈ l' := hs x h
noncomputable def Ty.kind : Ty → Str
  | .bool => "bool" | .u8 => "int" | .par _ => "param" | .box _ => "box" | .rf _ _ => "ref" | .arr _ _ => "array" | .tup1 _ | .tup2 _ => "tuple" | .adtS _ | .adtR _ _ => "adt"
theorem TyIn.head {news : List (Addr × Obj)} {v : Value} {t : Ty} (h : TyIn news v t) : ∃ a tk rest n, v = .ref a ∧ (a, tupO (.str t.kind tk :: rest) n) ∈ news := by
  cases h <;> exact ⟨_, _, _, _, rfl, by assumption⟩
theorem Ty.depth_pos (t : Ty) : 1 ≤ t.depth := by cases t <;> simp [Ty.depth]
theorem Ty.parts_depth {t t' : Ty} (h : t' ∈ t.parts) : t'.depth < t.depth := by
  cases t <;> simp [Ty.parts] at h <;> (try subst h) <;> (try simp [Ty.depth])
  rcases h with rfl | rfl
  · have := Ty.depth_pos ‹Ty›; simp [Ty.depth]; omega
  · simp
theorem TyAll.snoc {l : List (Addr × Obj)} {ys : List Value} {ts : List Ty} {y : Value} {t : Ty} (h : TyAll l ys ts) (h2 : TyIn l y t) : TyAll l (ys ++ [y]) (ts ++ [t]) := by
  induction h with
  | nil => exact .cons h2 .nil
  | cons a _ ih => exact .cons a ih
theorem Ty.parts_len (t : Ty) : t.parts.length ≤ 2 := by cases t <;> simp [Ty.parts]
theorem item0 {prog : Program} {w : World} {A : Around} {E : Value → Shared → Prop} {s : Shared} {value slice : Expr} {h₀ : Heap} {L a : Addr} {all : List (Addr × Obj)} {x : Value} {rest : List Value} {n : Nat} {u : Tok} {Q : Value → Shared → Prop}
    (N : News h₀ L s.heap all) (hm : (a, tupO (x :: rest) n) ∈ all) (h : Q x s)
    (hs : subscripted slice false (.ref a) (.int 0 u) = operate [.ref a, .int 0 u] (getItem (.ref a) (.int 0 u)) := by with_unfolding_all rfl) :
    wpAny (model prog w) A (subscriptTail value slice (.ref a) (.int 0 u)) Q E s :=
  item_tupleT (l := x :: rest) (j := 0) (News.isTup N hm) (by decide) (by decide) (by simp [seqIndex?]) rfl h hs
theorem valueAt_one {K : Type} [DecidableEq K] {k x : K} {v : Value} : valueAt [(x, v)] k = if k = x then some v else none := by
  unfold valueAt
  simp [List.find?]
  split
  · rename_i h; simp at h; simp [h]
  · rename_i h; simp at h; simp; exact fun e => h e.symm

theorem off3_addr {I C D : Addr} : ∀ {l l' : List (Addr × Obj)}, l'.map (·.1) = l.map (·.1) → LCg.Off3 I C D l → LCg.Off3 I C D l'
  | [], [], _, _ => trivial
  | [], _ :: _, h, _ => by simp at h
  | _ :: _, [], h, _ => by simp at h
  | p :: r, p' :: r', h, o => by
    simp only [List.map_cons, List.cons.injEq] at h
    exact ⟨by rw [h.1]; exact o.1, off3_addr h.2 o.2⟩
theorem ord_addr {l l' tl : List (Addr × Obj)} (h : l'.map (·.1) = l.map (·.1)) (o : ∀ q ∈ l, ∀ p ∈ tl, q.1 < p.1) : ∀ q ∈ l', ∀ p ∈ tl, q.1 < p.1 := fun q hq p hp => by
  have : q.1 ∈ l.map (·.1) := h ▸ List.mem_map_of_mem hq
  obtain ⟨q', hq', e⟩ := List.mem_map.mp this
  exact e ▸ o q' hq' p hp

section
variable {prog : Program} {w : World} {A : Around} {s : Shared} {h₀ : Heap} {L : Addr} {m : Str → Option Value} {env : Env}
/-- an element's end: what stood stands, the turned part is as `led` says, the value bears `t` -/
inductive EltEnd (h₀ : Heap) (L : Addr) (m : Str → Option Value) (s₁ : Shared) (front : List (Addr × Obj)) (led : List (Addr × Obj) → Prop) (all core : List (Addr × Obj)) (t : Ty) (y : Value) (s₂ : Shared) : Prop
  | of (h' : Heap) (tk' : Nat) (tl' : List (Addr × Obj)) (l' : List (Addr × Obj)) : led l' → s₂ = { s₁ with heap := h', toks := tk' } → Fr h₀ L h' m → News h₀ L h' (front ++ (l' ++ (all ++ tl'))) → (∀ q ∈ front ++ (l' ++ all), ∀ p ∈ tl', q.1 < p.1) → TyIn (core ++ tl') y t → EltEnd h₀ L m s₁ front led all core t y s₂
theorem EltEnd.mk {s₁ : Shared} {front all core : List (Addr × Obj)} {led : List (Addr × Obj) → Prop} {t : Ty} {y : Value} {h' : Heap} {tk' : Nat} (tl' l' : List (Addr × Obj)) (e : led l') (F : Fr h₀ L h' m) (N : News h₀ L h' (front ++ (l' ++ (all ++ tl')))) (o : ∀ q ∈ front ++ (l' ++ all), ∀ p ∈ tl', q.1 < p.1) (i : TyIn (core ++ tl') y t) :
    EltEnd h₀ L m s₁ front led all core t y { s₁ with heap := h', toks := tk' } := ⟨h', tk', tl', l', e, rfl, F, N, o, i⟩
inductive Chain {σ : Type} (Nx : σ → Ty → σ → Prop) : σ → List Ty → σ → Prop
  | nil {c : σ} : Chain Nx c [] c
  | cons {c c1 c2 : σ} {t : Ty} {ts : List Ty} : Nx c t c1 → Chain Nx c1 ts c2 → Chain Nx c (t :: ts) c2

theorem compRest_map {σ : Type} (Led : σ → List (Addr × Obj)) (Nx : σ → Ty → σ → Prop) (G : Ty → Ty) {elt : Expr} {x : Str} {scope : Scope} {cl : List (Str × Addr)} {S : List (Addr × Obj) → Prop} {Fin : List Value → List (Addr × Obj) → Prop} {all0 core0 : List (Addr × Obj)} {vs0 : List Value} {ts0 : List Ty} {c0 : σ}
    (hLed : ∀ c c', (Led c).map (·.1) = (Led c').map (·.1)) (hA : TyAll core0 vs0 ts0)
    (step : ∀ c v t tl ys I oI C oC D m₂ h tk (E' : Value → Shared → Prop), t ∈ ts0 → TyIn core0 v t → (∀ q ∈ Led c ++ all0, ∀ p ∈ tl, q.1 < p.1) → LCg.NsObj oC m₂ → m₂ x = some v → Fr h₀ L h m → News h₀ L h ((I, oI) :: (C, oC) :: (D, LCg.lst ys) :: (Led c ++ (all0 ++ tl))) →
      LCg.Off3 I C D (Led c ++ (all0 ++ tl)) → ((@Ne Nat I C) ∧ (@Ne Nat I D) ∧ (@Ne Nat C D)) →
      wpAny (model prog w) A (eval elt (compEnvC scope cl C env)) (EltEnd h₀ L m { s with heap := h, toks := tk } [(I, oI), (C, oC), (D, LCg.lst ys)] (fun l => ∃ c', Nx c t c' ∧ l = Led c') (all0 ++ tl) (core0 ++ tl) (G t)) E' { s with heap := h, toks := tk })
    (hS : ∀ c tl, S (Led c ++ (all0 ++ tl)))
    (fin : ∀ c ys tl, Chain Nx c0 ts0 c → (∀ q ∈ Led c0 ++ all0, ∀ p ∈ tl, q.1 < p.1) → TyAll (core0 ++ tl) ys (ts0.map G) → Fin ys (Led c ++ (all0 ++ tl))) :
    LCg.CompRest prog w A h₀ L m env elt x scope cl s S (fun i v => vs0.toArray[i]? = some v) Fin vs0.toArray.size 0 [] (Led c0 ++ all0) := by
  have main : ∀ (vsr : List Value) (tsr : List Ty) (vsd : List Value) (tsd : List Ty) (ys : List Value) (c : σ) (tl : List (Addr × Obj)), vs0 = vsd ++ vsr → ts0 = tsd ++ tsr → TyAll core0 vsr tsr → (∀ c', Chain Nx c tsr c' → Chain Nx c0 ts0 c') →
      (∀ q ∈ Led c0 ++ all0, ∀ p ∈ tl, q.1 < p.1) → TyAll (core0 ++ tl) ys (tsd.map G) →
      LCg.CompRest prog w A h₀ L m env elt x scope cl s S (fun i v => vs0.toArray[i]? = some v) Fin vsr.length vsd.length ys (Led c ++ (all0 ++ tl)) := by
    intro vsr
    induction vsr with
    | nil =>
      intro tsr vsd tsd ys c tl hv ht hA hc ho hy
      cases hA
      refine LCg.CompRest.zero ?_
      rw [List.append_nil] at ht
      subst ht
      exact fin c ys tl (hc c .nil) ho hy
    | cons v vsr ih =>
      intro tsr vsd tsd ys c tl hv ht hA hc ho hy
      cases hA
      rename_i t tsr hI hA
      refine LCg.CompRest.succ ?_
      intro v' I oI C oC D m₂ h tk E' hP hNs hx F N off ne
      have e : v' = v := by
        subst hv
        simp at hP
        exact hP.symm
      subst e
      have ho' : ∀ q ∈ Led c ++ all0, ∀ p ∈ tl, q.1 < p.1 := ord_addr (by simp [hLed c c0]) ho
      refine wpAny_mono (step c v' t tl ys I oI C oC D m₂ h tk E' (by rw [ht]; simp) hI ho' hNs hx F N off ne) (fun y s₂ hE => ?_) fun _ _ e => e
      obtain ⟨h', tk', tl', l', ⟨c1, hc1, rfl⟩, rfl, F', N', o', hT⟩ := hE
      have off' : LCg.Off3 I C D (Led c1 ++ (all0 ++ (tl ++ tl'))) := LCg.Off3.of fun p hp => by
        have off1 : LCg.Off3 I C D (Led c1 ++ (all0 ++ tl)) := off3_addr (by simp [hLed c1 c]) off
        rw [← List.append_assoc, ← List.append_assoc] at hp
        rcases List.mem_append.mp hp with hp | hp
        · exact off1.mem p (by simpa [List.append_assoc] using hp)
        · exact ⟨Nat.ne_of_gt (o' (I, oI) (by simp) p hp), Nat.ne_of_gt (o' (C, oC) (by simp) p hp), Nat.ne_of_gt (o' (D, LCg.lst ys) (by simp) p hp)⟩
      refine compEnd_mk F' (by simpa [List.append_assoc] using N') off' (hS _ _) ?_
      have := ih tsr (vsd ++ [v']) (tsd ++ [t]) (ys ++ [y]) c1 (tl ++ tl') (by simp [hv]) (by simp [ht]) hA (fun c' hch => hc c' (.cons hc1 hch))
        (ordA ho (ordS (ord_addr (l := Led c1 ++ all0) (l' := Led c0 ++ all0) (by simp [hLed c0 c1]) (ordS o' (fun p hp => by
          rcases List.mem_append.mp hp with hp | hp
          · exact memR (memL hp)
          · exact memR (memR (memL hp))))) (fun p hp => hp)))
        (by
          rw [List.map_append]
          have h1 : TyAll (core0 ++ (tl ++ tl')) ys (tsd.map G) := hy.mono (fun p hp => by rw [← List.append_assoc]; exact memL hp)
          have h2 : TyIn (core0 ++ (tl ++ tl')) y (G t) := by rw [← List.append_assoc]; exact hT
          exact h1.snoc h2)
      rw [List.length_append] at this
      exact this
  have := main vs0 ts0 [] [] [] c0 [] rfl rfl hA (fun _ h => h) (fun _ _ _ h => nomatch h) .nil
  simpa using this
end
theorem item0L {prog : Program} {w : World} {A : Around} {E : Value → Shared → Prop} {s : Shared} {value slice : Expr} {h₀ : Heap} {L a : Addr} {all : List (Addr × Obj)} {x : Value} {rest : List Value} {n : Nat} {u : Tok} {Q : Value → Shared → Prop}
    (N : News h₀ L s.heap all) (hm : (a, listOf (x :: rest).toArray n) ∈ all) (h : Q x s)
    (hs : subscripted slice false (.ref a) (.int 0 u) = operate [.ref a, .int 0 u] (getItem (.ref a) (.int 0 u)) := by with_unfolding_all rfl) :
    wpAny (model prog w) A (subscriptTail value slice (.ref a) (.int 0 u)) Q E s :=
  item_litK (my_isList N hm) (by decide) (by decide) rfl h hs
end Mine
end SL2
/-! LX -/
section SLX
open PySem.Spec PySem.Calls
namespace Mine
/-! short proofs of membership; states told anew -/
theorem stN {α : Type} {M : Model} {A : Around} {p : Sem α} {Q : α → Shared → Prop} {E : Value → Shared → Prop} {s : Shared} {h : Heap} {d : Drawn} {t : Nat}
    (H : ∀ t, wpAny M A p Q E { heap := h, gens := s.gens, drawn := d, toks := t, os := s.os }) : wpAny M A p Q E { heap := h, gens := s.gens, drawn := d, toks := t, os := s.os } := H t
theorem execsN {M : Model} {A : Around} {x : Stmt} {xs : List Stmt} {env : Env} {Q : Flow → Shared → Prop} {E : Value → Shared → Prop} {s : Shared} {h : Heap} {t : Nat}
    (H : wpAny M A (exec x env) (fun f s' => match f with | .next => wpAny M A (execs xs env) Q E s' | f => Q f s') E { heap := h, gens := s.gens, drawn := s.drawn, toks := t, os := s.os }) :
    wpAny M A (execs (x :: xs) env) Q E { heap := h, gens := s.gens, drawn := s.drawn, toks := t, os := s.os } := wpAny_execs_cons H
theorem split_tail {M : Model} {A : Around} {x : Stmt} {xs : List Stmt} {env : Env} {Q : Flow → Shared → Prop} {E : Value → Shared → Prop} {s : Shared} (J : Shared → Prop)
    (h1 : wpAny M A (exec x env) (fun f s' => match f with | .next => J s' | f => Q f s') E s) (h2 : ∀ s', J s' → wpAny M A (execs xs env) Q E s') : wpAny M A (execs (x :: xs) env) Q E s :=
  wpAny_execs_cons (wpAny_mono h1 (fun f s' h => by cases f <;> first | exact h2 s' h | exact h) fun _ _ e => e)
theorem withM1 {h₀ h : Heap} {L : Addr} {m : Str → Option Value} {G : Prop} (F : Fr h₀ L h m) (k : ∀ m', m' = m → Fr h₀ L h m' → G) : G := k m rfl F
noncomputable def StopW : Prop := True
/-- a tree at which the walk halts -/
structure Halt (p : Prop) : Prop where
  go : p
/-! a type's data, taken apart -/
section
variable {news : List (Addr × Obj)} {a : Addr} {r : Str} {i : Int} {t : Ty} {P : Prop} {vs : List Value}
theorem TyIn.boxE (h : TyIn news (.ref a) (.box t)) (K : ∀ v k n, (a, tupO [.str (Str.ofString "box") k, v] n) ∈ news → TyIn news v t → P) : P := by
  cases h; exact K _ _ _ ‹_› ‹_›
theorem TyIn.rfE (h : TyIn news (.ref a) (.rf r t)) (K : ∀ v k k' n, (a, tupO [.str (Str.ofString "ref") k, .str r k', .bool false, v] n) ∈ news → TyIn news v t → P) : P := by
  cases h; exact K _ _ _ _ ‹_› ‹_›
theorem TyIn.arrE (h : TyIn news (.ref a) (.arr i t)) (K : ∀ v k k' n, (a, tupO [.str (Str.ofString "array") k, v, .int i k'] n) ∈ news → TyIn news v t → P) : P := by
  cases h; exact K _ _ _ _ ‹_› ‹_›
theorem TyIn.tup1E (h : TyIn news (.ref a) (.tup1 t)) (K : ∀ b v k n n', (a, tupO [.str (Str.ofString "tuple") k, .ref b] n) ∈ news → (b, tupO [v] n') ∈ news → TyIn news v t → P) : P := by
  cases h; exact K _ _ _ _ _ ‹_› ‹_› ‹_›
theorem TyIn.tup2E (h : TyIn news (.ref a) (.tup2 t)) (K : ∀ b v v' k n n', (a, tupO [.str (Str.ofString "tuple") k, .ref b] n) ∈ news → (b, tupO [v, v'] n') ∈ news → TyIn news v .u8 → TyIn news v' t → P) : P := by
  cases h; exact K _ _ _ _ _ _ ‹_› ‹_› ‹_› ‹_›
theorem TyIn.adtSE (h : TyIn news (.ref a) (.adtS t)) (K : ∀ b c v k k' n n' n'', (a, tupO [.str (Str.ofString "adt") k, .str (Str.ofString "S") k', .ref b, .ref c] n) ∈ news → (b, tupO [] n') ∈ news → (c, tupO [v] n'') ∈ news → TyIn news v t → P) : P := by
  cases h; exact K _ _ _ _ _ _ _ _ ‹_› ‹_› ‹_› ‹_›
theorem TyIn.adtRE (h : TyIn news (.ref a) (.adtR r t)) (K : ∀ b c v k k' k'' n n' n'', (a, tupO [.str (Str.ofString "adt") k, .str (Str.ofString "R") k', .ref b, .ref c] n) ∈ news → (b, tupO [.str r k''] n') ∈ news → (c, tupO [v] n'') ∈ news → TyIn news v t → P) : P := by
  cases h; exact K _ _ _ _ _ _ _ _ _ ‹_› ‹_› ‹_› ‹_›
theorem TyAll.e0 (h : TyAll news vs []) (K : vs = [] → P) : P := by cases h; exact K rfl
theorem TyAll.e1 (h : TyAll news vs [t]) (K : ∀ v, vs = [v] → TyIn news v t → P) : P := by
  cases h; rename_i h; cases h; exact K _ rfl ‹_›
theorem TyAll.e2 {t' : Ty} (h : TyAll news vs [t, t']) (K : ∀ v v', vs = [v, v'] → TyIn news v t → TyIn news v' t' → P) : P := by
  cases h; rename_i h; cases h; rename_i h; cases h; exact K _ _ rfl ‹_› ‹_›
theorem TyAll.e3 {t' t'' : Ty} (h : TyAll news vs [t, t', t'']) (K : ∀ v v' v'', vs = [v, v', v''] → TyIn news v t → TyIn news v' t' → TyIn news v'' t'' → P) : P := by
  cases h; rename_i h; refine TyAll.e2 h fun v v' e a b => ?_; subst e; exact K _ _ _ rfl ‹_› a b
theorem len1 {ts : List Ty} (h : ts.length = 1) (K : ∀ u, ts = [u] → P) : P := by
  match ts, h with
  | [u], _ => exact K u rfl
end
/-! what a type is not -/
section
variable {t : Ty}
theorem kind_ref (h : ¬ ∃ r u, t = .rf r u) : (t.kind == ("ref" : Str)) = false := by cases t <;> first | rfl | decide | exact absurd ⟨_, _, rfl⟩ h
theorem kind_box (h : ¬ ∃ u, t = .box u) : (t.kind == ("box" : Str)) = false := by cases t <;> first | rfl | decide | exact absurd ⟨_, rfl⟩ h
theorem kind_array (h : ¬ ∃ n u, t = .arr n u) : (t.kind == ("array" : Str)) = false := by cases t <;> first | rfl | decide | exact absurd ⟨_, _, rfl⟩ h
theorem kind_tuple (h : ¬ ∃ u, t = .tup1 u) (h2 : ¬ ∃ u, t = .tup2 u) : (t.kind == ("tuple" : Str)) = false := by cases t <;> first | rfl | decide | exact absurd ⟨_, rfl⟩ h | exact absurd ⟨_, rfl⟩ h2
theorem kind_adt (h : ¬ ∃ u, t = .adtS u) (h2 : ¬ ∃ r u, t = .adtR r u) : (t.kind == ("adt" : Str)) = false := by cases t <;> first | rfl | decide | exact absurd ⟨_, rfl⟩ h | exact absurd ⟨_, _, rfl⟩ h2
theorem parts_nil (h1 : (t.kind == ("ref" : Str)) = false) (h2 : (t.kind == ("box" : Str)) = false) (h3 : (t.kind == ("array" : Str)) = false) (h4 : (t.kind == ("tuple" : Str)) = false) (h5 : (t.kind == ("adt" : Str)) = false) : t.parts = [] := by
  cases t <;> first | rfl | exact nomatch (show true = false from h1) | exact nomatch (show true = false from h2) | exact nomatch (show true = false from h3) | exact nomatch (show true = false from h4) | exact nomatch (show true = false from h5)
theorem parts_two : t.parts.length ≤ 2 := by cases t <;> simp [Ty.parts]
end
/-! a list under another name -/
theorem memEq {α : Type} {l l' : List α} {x : α} (e : l' = l) (h : x ∈ l) : x ∈ l' := e ▸ h
theorem subEq {α : Type} {l l' X : List α} (e : l' = l) (h : ∀ p ∈ X, p ∈ l) : ∀ p ∈ X, p ∈ l' := e ▸ h
theorem newsEq {h₀ h : Heap} {L : Addr} {l l' : List (Addr × Obj)} {q : Addr × Obj} {f : Addr × Obj → Bool} (e : l' = l) (N : News h₀ L h (q :: l.filter f)) : News h₀ L h (q :: l'.filter f) := e ▸ N
/-! budgets -/
theorem bud {a b c i k : Nat} (h : a + b < c) (e : i + k ≤ b) : a + i + k < c := by omega
theorem bud2 {a b c i k d n : Nat} (h : a + b < c) (e : d ≤ n) (e2 : i + (n + k) ≤ b) : a + i + (d + k) < c := by omega
theorem bud8 {a b c i k d n : Nat} (h : a + b < c) (e : d ≤ n) (e2 : i + 8 * (n + k) ≤ b) : a + i + 8 * (d + k) < c := by omega
theorem budU {a c d i : Nat} (h : a + 8 * (d + 1) < c) (p : 1 ≤ d) (e : i ≤ 8) : a + i + 8 * 1 < c := by omega
theorem budV {a c d d' i : Nat} (h : a + 8 * (d + 1) < c) (p : d' < d) (e : i ≤ 8) : a + i + 8 * (d' + 1) < c := by omega
/-! a member of a chain of facts -/
section
variable {p q a b c d e f g h i j k l m : Prop}
theorem cj1 (x : p ∧ q) : p := x.1
theorem cj2 (x : a ∧ p ∧ q) : p := x.2.1
theorem cj3 (x : a ∧ b ∧ p ∧ q) : p := x.2.2.1
theorem cj4 (x : a ∧ b ∧ c ∧ p ∧ q) : p := x.2.2.2.1
theorem cj5 (x : a ∧ b ∧ c ∧ d ∧ p ∧ q) : p := x.2.2.2.2.1
theorem cj6 (x : a ∧ b ∧ c ∧ d ∧ e ∧ p ∧ q) : p := x.2.2.2.2.2.1
theorem cj7 (x : a ∧ b ∧ c ∧ d ∧ e ∧ f ∧ p ∧ q) : p := x.2.2.2.2.2.2.1
theorem cj8 (x : a ∧ b ∧ c ∧ d ∧ e ∧ f ∧ g ∧ p ∧ q) : p := x.2.2.2.2.2.2.2.1
theorem cj9 (x : a ∧ b ∧ c ∧ d ∧ e ∧ f ∧ g ∧ h ∧ p ∧ q) : p := x.2.2.2.2.2.2.2.2.1
theorem cj10 (x : a ∧ b ∧ c ∧ d ∧ e ∧ f ∧ g ∧ h ∧ i ∧ p ∧ q) : p := x.2.2.2.2.2.2.2.2.2.1
theorem cj11 (x : a ∧ b ∧ c ∧ d ∧ e ∧ f ∧ g ∧ h ∧ i ∧ j ∧ p ∧ q) : p := x.2.2.2.2.2.2.2.2.2.2.1
theorem cj12 (x : a ∧ b ∧ c ∧ d ∧ e ∧ f ∧ g ∧ h ∧ i ∧ j ∧ k ∧ p ∧ q) : p := x.2.2.2.2.2.2.2.2.2.2.2.1
theorem cj13 (x : a ∧ b ∧ c ∧ d ∧ e ∧ f ∧ g ∧ h ∧ i ∧ j ∧ k ∧ l ∧ p ∧ q) : p := x.2.2.2.2.2.2.2.2.2.2.2.2.1
theorem cj14 (x : a ∧ b ∧ c ∧ d ∧ e ∧ f ∧ g ∧ h ∧ i ∧ j ∧ k ∧ l ∧ m ∧ p ∧ q) : p := x.2.2.2.2.2.2.2.2.2.2.2.2.2.1
end
end Mine
end SLX
/-! LH -/
section SLH
open PySem.Spec PySem.Calls
namespace Mine
/-! a law at one point: one at which it fails, if it fails at any. What is said of a constant is stored once. -/
@[irreducible] noncomputable def pick {α : Type} (a : α) (P : α → Prop) : α := @Classical.epsilon α ⟨a⟩ fun x => ¬ P x
theorem pick_is {α : Type} {a x : α} {P : α → Prop} (e : x = pick a P) (h : P x) : ∀ y, P y := fun y => by
  by_cases hy : P y
  · exact hy
  · exact absurd h (by rw [e]; unfold pick; exact @Classical.epsilon_spec α (fun x => ¬ P x) ⟨y, hy⟩)
set_option genInjectivity false
set_option genSizeOf false
/-- what a contract's walk speaks of, its entry and the frame behind it -/
structure Pt where
  w : World
  p : Program
  loose : List Str
  mean : ExcName → Option Value
  mg : Str → Option Value
  mb : Str → Option Value
  dp : Nat
  un : Nat
  gd : Option (List Code)
  cn : Str
  cs : Scope
  a : Addr
  ccd : Value
  cl : List (Str × Addr)
  outer : List Env
  A₀ : Around
  base : Heap
  h₀ : Heap
  L : Addr
  m : Str → Option Value
  ext : List (Addr × Obj)
  news : List (Addr × Obj)
  s : Shared
  Q : Value → Shared → Prop
  E : Value → Shared → Prop
  g : Heap
  L' : Addr
  h' : Heap
noncomputable def pt0 : Pt := ⟨⟨fun _ _ => 0, { strHash := fun _ => 0, shareClass := fun _ => 0, mergeTok := id, idOf := fun _ => 0, idOfShared := fun _ _ => 0, followText := fun _ => false, idOfImm := fun _ => 0 }⟩, default, [], fun _ => none, fun _ => none, fun _ => none, default, default, default, default, default, default, default, [], [], {}, default, default, default, fun _ => none, [], [], {}, fun _ _ => True, fun _ _ => True, default, default, default⟩
abbrev PtP := World → Program → List Str → (ExcName → Option Value) → (Str → Option Value) → (Str → Option Value) → Nat → Nat → Option (List Code) → Str → Scope → Addr → Value → List (Str × Addr) → List Env → Around → Heap → Heap → Addr → (Str → Option Value) → List (Addr × Obj) → List (Addr × Obj) → Shared → (Value → Shared → Prop) → (Value → Shared → Prop) → Heap → Addr → Heap → Prop
noncomputable abbrev Pt.at (x : Pt) (P : PtP) : Prop := P x.w x.p x.loose x.mean x.mg x.mb x.dp x.un x.gd x.cn x.cs x.a x.ccd x.cl x.outer x.A₀ x.base x.h₀ x.L x.m x.ext x.news x.s x.Q x.E x.g x.L' x.h'
structure Cut (T : Prop) where
  P : PtP
  use : (∀ w p loose mean mg mb dp un gd cn cs a ccd cl outer A₀ base h₀ L m ext news s Q E g L' h', P w p loose mean mg mb dp un gd cn cs a ccd cl outer A₀ base h₀ L m ext news s Q E g L' h') → T
theorem cut_is {T : Prop} {C : Cut T} {x : Pt} (e : x = pick pt0 fun x => x.at C.P) (h : x.at C.P) : T := C.use fun w p loose mean mg mb dp un gd cn cs a ccd cl outer A₀ base h₀ L m ext news s Q E g L' h' => pick_is (α := Pt) (P := fun x => Pt.at x C.P) (a := pt0) e h ⟨w, p, loose, mean, mg, mb, dp, un, gd, cn, cs, a, ccd, cl, outer, A₀, base, h₀, L, m, ext, news, s, Q, E, g, L', h'⟩
end Mine
end SLH
/-! P1 -/
section SP1
open PySem.Spec PySem.Calls
namespace Mine
inductive OneTy (news : List (Addr × Obj)) : List Value → Ty → Prop
  | mk {v : Value} {t : Ty} : TyIn news v t → OneTy news [v] t
inductive PartsOut (news : List (Addr × Obj)) (r : Value) (ts : List Ty) : Prop
  | mk (a : Addr) (n : Nat) (vs : List Value) : r = .ref a → (a, tupO vs n) ∈ news → TyAll news vs ts → PartsOut news r ts
noncomputable abbrev partsT : ToldX Ty where
  Rel := fun _ => OneTy
  size := fun _ => 1
  Out := fun news r t => PartsOut news r t.parts
set_option hygiene false in
local macro_rules | `(tactic| walk_at "execs cons") => `(tactic| (k_here; (try k_gentoks); (try k_fold); (with_reducible refine execsN ?_)))
local macro_rules | `(tactic| walk_at "m:mem") => `(tactic| first | assumption | exact List.Mem.head _ | (with_reducible refine memTail ?_; walk_at "m:mem") | (with_reducible refine memR ?_; walk_at "m:mem") | (with_reducible refine memL ?_; walk_at "m:mem"))
local macro_rules | `(tactic| k_mem) => `(tactic| walk_at "m:mem")
local macro_rules | `(tactic| walk_at "subscriptTail") => `(tactic| (k_here; (with_reducible show wpAny _ _ (subscriptTail _ _ (Value.ref _) (Value.int 0 _)) _ _ _); k_dflt (refine item0 (by k_asm) (by k_mem) ?_)))
inductive SameH (c : Prop) (h : Heap) (s : Shared) : Shared → Prop
  | mk (tk : Nat) : c → SameH c h s { heap := h, gens := s.gens, drawn := s.drawn, toks := tk, os := s.os }
local macro_rules | `(tactic| walk_at "execs cons") => `(tactic| (k_here; rename StopW => hStopW; refine Halt.go ?_))
set_option maxHeartbeats 8000000 in
noncomputable def cut61 : Cut (∀ (w : World) (p : Program) (loose : List Str) (mean : ExcName → Option Value) (mg mb : Str → Option Value) (t : Ty), TellsX PySem.Challenge.rw_xw0159_01.row.prog w (hd.heap_1 w.params) p loose mean mg mb 61 partsT t) := by
  refine' ⟨_, fun kP w p loose mean mg mb t => ?use⟩
  case use =>
    unfold TellsX
    k_fill
    intro dp un gd cn cs a ccd cl outer A₀ base h₀ L m ext news s vs Q E B F X N T hk hR hdp hun hret
    cases hR
    rename_i v hR
    obtain ⟨a1, tkK, rest1, n1, rfl, hm1⟩ := hR.head
    refine wpAny_call ?_
    k_dflt ktr_enter
    rename_i g' L' h' FG' F' N' B' X' T'
    revert T'; revert X'; revert B'; revert N'; revert F'; revert FG'; revert hret; revert hun; revert hdp; revert hm1; revert hR; revert hk; revert T; revert N; revert X; revert F; revert B; revert n1; revert rest1; revert tkK; revert a1; revert t
    exact @kP w p loose mean mg mb dp un gd cn cs a ccd cl outer A₀ base h₀ L m ext news s Q E g' L' h'
@[irreducible] noncomputable def x61 : Pt := pick pt0 fun x => x.at cut61.P
set_option maxHeartbeats 8000000 in
theorem parts_of_tells_b : x61.at cut61.P := by
  intro t a1 tkK rest1 n1 B F X N T hk hR hm1 hdp hun hret FG' F' N' B' X' T'
  (try k_gentoks)
  (try k_fold)
  refine execsN ?_
  have hSt : StopW := trivial
  k_steps
  refine Halt.mk ?_
  (rename StopW => hS; clear hS)
  rename Heap => h9
  refine split_tail (SameH ((t.kind == ("ref" : Str)) = false) h9 x61.s) ?_ ?_
  · (try k_fold)
    by_cases hrf : ∃ r u, t = .rf r u
    · obtain ⟨r, u, ht⟩ := hrf
      have hk19 : (t.kind == ("ref" : Str)) = true := by rw [ht]; rfl
      refine TyIn.rfE (ht ▸ hR) fun v1 k1 k1' n1' hm2 hv1 => ?_
      clear hm1
      ((k_steps; first | exact hret _ [] _ _ (by k_asm) (nz0 (by k_asm)) ord0 ⟨_, _, _, rfl, memL (by assumption), by rw [ht]; exact .cons (TyIn.app (by assumption)) .nil⟩ | exact hret _ [] _ _ (by k_asm) (nz0 (by k_asm)) ord0 ⟨_, _, _, rfl, memL (by assumption), by rw [ht]; exact .cons (TyIn.app (by assumption)) (.cons (TyIn.app (by assumption)) .nil)⟩ | exact hret _ [_] _ _ (by k_asm) (nz1 (by k_asm)) (od1 (by first | assumption | exact ktn_ltOf (by assumption))) ⟨_, _, _, rfl, mA, by rw [ht]; exact .cons (TyIn.app (by assumption)) .nil⟩))
    · have hk1 := kind_ref hrf
      (((try k_fold); k_steps; (try dsimp only); (repeat' (k_unfold; (try dsimp only))); exact SameH.mk _ (by assumption)))
  intro sA hA
  cases hA
  rename_i hc1
  refine split_tail (SameH ((t.kind == ("box" : Str)) = false ∧ (t.kind == ("array" : Str)) = false) h9 x61.s) ?_ ?_
  · (try k_fold)
    by_cases hbx : ∃ u, t = .box u
    · obtain ⟨u, ht⟩ := hbx
      have hk19 : (t.kind == ("box" : Str)) = true := by rw [ht]; rfl
      refine TyIn.boxE (ht ▸ hR) fun v1 k1 n1' hm2 hv1 => ?_
      clear hm1
      ((k_steps; first | exact hret _ [] _ _ (by k_asm) (nz0 (by k_asm)) ord0 ⟨_, _, _, rfl, memL (by assumption), by rw [ht]; exact .cons (TyIn.app (by assumption)) .nil⟩ | exact hret _ [] _ _ (by k_asm) (nz0 (by k_asm)) ord0 ⟨_, _, _, rfl, memL (by assumption), by rw [ht]; exact .cons (TyIn.app (by assumption)) (.cons (TyIn.app (by assumption)) .nil)⟩ | exact hret _ [_] _ _ (by k_asm) (nz1 (by k_asm)) (od1 (by first | assumption | exact ktn_ltOf (by assumption))) ⟨_, _, _, rfl, mA, by rw [ht]; exact .cons (TyIn.app (by assumption)) .nil⟩))
    · have hk1 := kind_box hbx
      by_cases har : ∃ n u, t = .arr n u
      · obtain ⟨n, u, ht⟩ := har
        have hk19 : (t.kind == ("array" : Str)) = true := by rw [ht]; rfl
        refine TyIn.arrE (ht ▸ hR) fun v1 k1 k1' n1' hm2 hv1 => ?_
        clear hm1
        ((k_steps; first | exact hret _ [] _ _ (by k_asm) (nz0 (by k_asm)) ord0 ⟨_, _, _, rfl, memL (by assumption), by rw [ht]; exact .cons (TyIn.app (by assumption)) .nil⟩ | exact hret _ [] _ _ (by k_asm) (nz0 (by k_asm)) ord0 ⟨_, _, _, rfl, memL (by assumption), by rw [ht]; exact .cons (TyIn.app (by assumption)) (.cons (TyIn.app (by assumption)) .nil)⟩ | exact hret _ [_] _ _ (by k_asm) (nz1 (by k_asm)) (od1 (by first | assumption | exact ktn_ltOf (by assumption))) ⟨_, _, _, rfl, mA, by rw [ht]; exact .cons (TyIn.app (by assumption)) .nil⟩))
      · have hk2 := kind_array har
        have hk3 := And.intro hk1 hk2
        (((try k_fold); k_steps; (try dsimp only); (repeat' (k_unfold; (try dsimp only))); exact SameH.mk _ (by assumption)))
  intro sA hA
  cases hA
  rename_i hc2
  refine split_tail (SameH ((t.kind == ("tuple" : Str)) = false) h9 x61.s) ?_ ?_
  · (try k_fold)
    by_cases ht1 : ∃ u, t = .tup1 u
    · obtain ⟨u, ht⟩ := ht1
      have hk19 : (t.kind == ("tuple" : Str)) = true := by rw [ht]; rfl
      refine TyIn.tup1E (ht ▸ hR) fun b1 v1 k1 n1' n2' hm2 hm3 hv1 => ?_
      clear hm1
      ((k_steps; first | exact hret _ [] _ _ (by k_asm) (nz0 (by k_asm)) ord0 ⟨_, _, _, rfl, memL (by assumption), by rw [ht]; exact .cons (TyIn.app (by assumption)) .nil⟩ | exact hret _ [] _ _ (by k_asm) (nz0 (by k_asm)) ord0 ⟨_, _, _, rfl, memL (by assumption), by rw [ht]; exact .cons (TyIn.app (by assumption)) (.cons (TyIn.app (by assumption)) .nil)⟩ | exact hret _ [_] _ _ (by k_asm) (nz1 (by k_asm)) (od1 (by first | assumption | exact ktn_ltOf (by assumption))) ⟨_, _, _, rfl, mA, by rw [ht]; exact .cons (TyIn.app (by assumption)) .nil⟩))
    · by_cases ht2 : ∃ u, t = .tup2 u
      · obtain ⟨u, ht⟩ := ht2
        have hk19 : (t.kind == ("tuple" : Str)) = true := by rw [ht]; rfl
        refine TyIn.tup2E (ht ▸ hR) fun b1 v1 v2 k1 n1' n2' hm2 hm3 hv1 hv2 => ?_
        clear hm1
        ((k_steps; first | exact hret _ [] _ _ (by k_asm) (nz0 (by k_asm)) ord0 ⟨_, _, _, rfl, memL (by assumption), by rw [ht]; exact .cons (TyIn.app (by assumption)) .nil⟩ | exact hret _ [] _ _ (by k_asm) (nz0 (by k_asm)) ord0 ⟨_, _, _, rfl, memL (by assumption), by rw [ht]; exact .cons (TyIn.app (by assumption)) (.cons (TyIn.app (by assumption)) .nil)⟩ | exact hret _ [_] _ _ (by k_asm) (nz1 (by k_asm)) (od1 (by first | assumption | exact ktn_ltOf (by assumption))) ⟨_, _, _, rfl, mA, by rw [ht]; exact .cons (TyIn.app (by assumption)) .nil⟩))
      · have hk2 := kind_tuple ht1 ht2
        (((try k_fold); k_steps; (try dsimp only); (repeat' (k_unfold; (try dsimp only))); exact SameH.mk _ (by assumption)))
  intro sA hA
  cases hA
  rename_i hc3
  (try k_fold)
  by_cases haS : ∃ u, t = .adtS u
  · obtain ⟨u, ht⟩ := haS
    have hk19 : (t.kind == ("adt" : Str)) = true := by rw [ht]; rfl
    refine TyIn.adtSE (ht ▸ hR) fun b1 c1 v1 k1 k1' n1' n2' n3' hm2 hm3 hm4 hv1 => ?_
    clear hm1
    ((k_steps; first | exact hret _ [] _ _ (by k_asm) (nz0 (by k_asm)) ord0 ⟨_, _, _, rfl, memL (by assumption), by rw [ht]; exact .cons (TyIn.app (by assumption)) .nil⟩ | exact hret _ [] _ _ (by k_asm) (nz0 (by k_asm)) ord0 ⟨_, _, _, rfl, memL (by assumption), by rw [ht]; exact .cons (TyIn.app (by assumption)) (.cons (TyIn.app (by assumption)) .nil)⟩ | exact hret _ [_] _ _ (by k_asm) (nz1 (by k_asm)) (od1 (by first | assumption | exact ktn_ltOf (by assumption))) ⟨_, _, _, rfl, mA, by rw [ht]; exact .cons (TyIn.app (by assumption)) .nil⟩))
  · by_cases haR : ∃ r u, t = .adtR r u
    · obtain ⟨r, u, ht⟩ := haR
      have hk19 : (t.kind == ("adt" : Str)) = true := by rw [ht]; rfl
      refine TyIn.adtRE (ht ▸ hR) fun b1 c1 v1 k1 k1' k2' n1' n2' n3' hm2 hm3 hm4 hv1 => ?_
      clear hm1
      ((k_steps; first | exact hret _ [] _ _ (by k_asm) (nz0 (by k_asm)) ord0 ⟨_, _, _, rfl, memL (by assumption), by rw [ht]; exact .cons (TyIn.app (by assumption)) .nil⟩ | exact hret _ [] _ _ (by k_asm) (nz0 (by k_asm)) ord0 ⟨_, _, _, rfl, memL (by assumption), by rw [ht]; exact .cons (TyIn.app (by assumption)) (.cons (TyIn.app (by assumption)) .nil)⟩ | exact hret _ [_] _ _ (by k_asm) (nz1 (by k_asm)) (od1 (by first | assumption | exact ktn_ltOf (by assumption))) ⟨_, _, _, rfl, mA, by rw [ht]; exact .cons (TyIn.app (by assumption)) .nil⟩))
    · have hk1 := kind_adt haS haR
      have hp := parts_nil hc1 hc2.1 hc2.2 hc3 hk1
      k_steps
      first
        | exact hret _ [] _ _ (by k_asm) (nz0 (by k_asm)) ord0 ⟨_, _, _, rfl, memL (by assumption), by rw [hp]; exact .nil⟩
        | exact hret _ [_] _ _ (by k_asm) (nz1 (by k_asm)) (od1 (by first | assumption | exact ktn_ltOf (by assumption))) ⟨_, _, _, rfl, mA, by rw [hp]; exact .nil⟩
theorem parts_of_tells (w : World) (p : Program) (loose : List Str) (mean : ExcName → Option Value) (mg mb : Str → Option Value) (t : Ty) :
    TellsX PySem.Challenge.rw_xw0159_01.row.prog w (hd.heap_1 w.params) p loose mean mg mb 61 partsT t := cut_is (C := cut61) (by delta x61; rfl) parts_of_tells_b w p loose mean mg mb t
noncomputable def Ty.rebuild : Ty → List Ty → Ty
  | .box _, [u] => .box u
  | .rf r _, [u] => .rf r u
  | .arr n _, [u] => .arr n u
  | .tup1 _, [u] => .tup1 u
  | .tup2 _, [_, u] => .tup2 u
  | .adtS _, [u] => .adtS u
  | .adtR r _, [u] => .adtR r u
  | t, _ => t
/-- the new parts are as many; the first of two is the byte again -/
noncomputable def Ty.fits : Ty → List Ty → Prop
  | .tup2 _, [u, _] => u = .u8
  | t, ts => ts.length = t.parts.length ∧ t.parts.length ≤ 1
theorem rebuild_self {t : Ty} {ts : List Ty} (h1 : (t.kind == ("ref" : Str)) = false) (h2 : (t.kind == ("box" : Str)) = false) (h3 : (t.kind == ("array" : Str)) = false) (h4 : (t.kind == ("tuple" : Str)) = false) (h5 : (t.kind == ("adt" : Str)) = false) : t.rebuild ts = t := by
  cases t <;> first | rfl | exact nomatch (show true = false from h1) | exact nomatch (show true = false from h2) | exact nomatch (show true = false from h3) | exact nomatch (show true = false from h4) | exact nomatch (show true = false from h5)
theorem fits2 {u : Ty} {ts : List Ty} (h : (Ty.tup2 u).fits ts) : ∃ u2, ts = [.u8, u2] := by
  rcases ts with _ | ⟨u1, _ | ⟨u2, _ | ⟨u3, ts⟩⟩⟩ <;> simp [Ty.fits, Ty.parts] at h
  exact ⟨u2, by rw [h]⟩
inductive RebIn (all news : List (Addr × Obj)) : List Value → Ty × List Ty → Prop
  | mk {v : Value} {t : Ty} {l : Addr} {vs : List Value} {ts : List Ty} {n : Nat} : TyIn news v t → (l, listOf vs.toArray n) ∈ all → TyAll news vs ts → t.fits ts → RebIn all news [v, .ref l] (t, ts)
noncomputable abbrev rebT : ToldX (Ty × List Ty) where
  Rel := RebIn
  size := fun _ => 1
  Out := fun news r d => TyIn news r (d.1.rebuild d.2)
local macro_rules | `(tactic| walk_at "subscriptTail") => `(tactic| (k_here; (with_reducible show wpAny _ _ (subscriptTail _ _ (Value.ref _) (Value.int 0 _)) _ _ _); k_dflt (refine item0L (by k_asm) (by k_mem) ?_)))
local macro_rules | `(tactic| walk_at "subscriptTail") => `(tactic| (k_here; (with_reducible show wpAny _ _ (subscriptTail _ _ (Value.ref _) (Value.int 0 _)) _ _ _); k_dflt (refine item0 (by k_asm) (by k_mem) ?_)))
set_option maxHeartbeats 8000000 in
noncomputable def cut68 : Cut (∀ (w : World) (p : Program) (loose : List Str) (mean : ExcName → Option Value) (mg mb : Str → Option Value) (d : Ty × List Ty), TellsX PySem.Challenge.rw_xw0159_01.row.prog w (hd.heap_1 w.params) p loose mean mg mb 68 rebT d) := by
  refine' ⟨_, fun kP w p loose mean mg mb d => ?use⟩
  case use =>
    unfold TellsX
    k_fill
    intro dp un gd cn cs a ccd cl outer A₀ base h₀ L m ext news s vs Q E B F X N T hk hR hdp hun hret
    cases hR
    rename_i v t l vs ts n hR hl hts hlen
    obtain ⟨a1, tkK, rest1, n1, rfl, hm1⟩ := hR.head
    refine wpAny_call ?_
    k_dflt ktr_enter
    rename_i g' L' h' FG' F' N' B' X' T'
    revert T'; revert X'; revert B'; revert N'; revert F'; revert FG'; revert hret; revert hun; revert hdp; revert hlen; revert hts; revert hl; revert hm1; revert hR; revert hk; revert T; revert N; revert X; revert F; revert B; revert n1; revert rest1; revert tkK; revert a1; revert n; revert ts; revert vs; revert l; revert t
    exact @kP w p loose mean mg mb dp un gd cn cs a ccd cl outer A₀ base h₀ L m ext news s Q E g' L' h'
@[irreducible] noncomputable def x68 : Pt := pick pt0 fun x => x.at cut68.P
set_option maxHeartbeats 8000000 in
theorem rebuilt_tells_b : x68.at cut68.P := by
  intro t l vs ts n a1 tkK rest1 n1 B F X N T hk hR hm1 hl hts hlen hdp hun hret FG' F' N' B' X' T'
  (try k_gentoks)
  (try k_fold)
  refine execsN ?_
  have hSt : StopW := trivial
  k_steps
  refine Halt.mk ?_
  (rename StopW => hS; clear hS)
  rename Heap => h9
  refine split_tail (SameH ((t.kind == ("ref" : Str)) = false) h9 x68.s) ?_ ?_
  · (try k_fold)
    by_cases hq0 : ∃ r u, t = Ty.rf r u
    · obtain ⟨r, u, ht⟩ := hq0
      have hkref9 : (t.kind == ("ref" : Str)) = true := by rw [ht]; rfl
      refine TyIn.rfE (ht ▸ hR) fun v1 k1 k1' n1' hm2 hv1 => ?_
      clear hm1
      refine len1 ((ht ▸ hlen : Ty.fits (.rf r u) ts)).1 fun u2 hts2 => ?_
      refine TyAll.e1 (hts2 ▸ hts) fun w1 ew hw1 => ?_
      subst ew
      ((k_steps; first | exact hret _ [] _ _ (by k_asm) (nz0 (by k_asm)) ord0 (TyIn.app (by first | exact .bool (by assumption) | exact .u8 (by assumption) | exact .par (by assumption))) | exact hret _ [_] _ _ (by k_asm) (nz1 (by k_asm)) (od1 (by (first | assumption | exact lt1 (by assumption) | exact lt2 (by assumption) | exact ktn_ltOf (by assumption) | exact ktn_ltOf (And.right (by assumption)) | exact ktn_ltOf (And.right (And.right (by assumption)))))) (by show TyIn _ _ (t.rebuild ts); rw [ht, hts2]; first | exact .box mA (TyIn.app (by assumption)) | exact .rf mA (TyIn.app (by assumption)) | exact .arr mA (TyIn.app (by assumption))) | exact hret _ [_, _] _ _ (by k_asm) (nz2 (by k_asm)) (od2 (by (first | assumption | exact lt1 (by assumption) | exact lt2 (by assumption) | exact ktn_ltOf (by assumption) | exact ktn_ltOf (And.right (by assumption)) | exact ktn_ltOf (And.right (And.right (by assumption))))) (by (first | assumption | exact lt1 (by assumption) | exact lt2 (by assumption) | exact ktn_ltOf (by assumption) | exact ktn_ltOf (And.right (by assumption)) | exact ktn_ltOf (And.right (And.right (by assumption)))))) (by show TyIn _ _ (t.rebuild ts); rw [ht, hts2]; first | exact .tup1 mB mC (TyIn.app (by assumption)) | exact .tup2 mB mC (TyIn.app (by assumption)) (TyIn.app (by assumption)) | exact .adtS mB (memL (by assumption)) mC (TyIn.app (by assumption)) | exact .adtR mB (memL (by assumption)) mC (TyIn.app (by assumption)))))
    · skip
      have hkref := kind_ref hq0
      (((try k_fold); k_steps; (try dsimp only); (repeat' (k_unfold; (try dsimp only))); exact SameH.mk _ (by assumption)))
  intro sA hA
  cases hA
  rename_i hc1
  refine split_tail (SameH ((t.kind == ("box" : Str)) = false) h9 x68.s) ?_ ?_
  · (try k_fold)
    by_cases hq0 : ∃ u, t = Ty.box u
    · obtain ⟨u, ht⟩ := hq0
      have hkbox9 : (t.kind == ("box" : Str)) = true := by rw [ht]; rfl
      refine TyIn.boxE (ht ▸ hR) fun v1 k1 n1' hm2 hv1 => ?_
      clear hm1
      refine len1 ((ht ▸ hlen : Ty.fits (.box u) ts)).1 fun u2 hts2 => ?_
      refine TyAll.e1 (hts2 ▸ hts) fun w1 ew hw1 => ?_
      subst ew
      ((k_steps; first | exact hret _ [] _ _ (by k_asm) (nz0 (by k_asm)) ord0 (TyIn.app (by first | exact .bool (by assumption) | exact .u8 (by assumption) | exact .par (by assumption))) | exact hret _ [_] _ _ (by k_asm) (nz1 (by k_asm)) (od1 (by (first | assumption | exact lt1 (by assumption) | exact lt2 (by assumption) | exact ktn_ltOf (by assumption) | exact ktn_ltOf (And.right (by assumption)) | exact ktn_ltOf (And.right (And.right (by assumption)))))) (by show TyIn _ _ (t.rebuild ts); rw [ht, hts2]; first | exact .box mA (TyIn.app (by assumption)) | exact .rf mA (TyIn.app (by assumption)) | exact .arr mA (TyIn.app (by assumption))) | exact hret _ [_, _] _ _ (by k_asm) (nz2 (by k_asm)) (od2 (by (first | assumption | exact lt1 (by assumption) | exact lt2 (by assumption) | exact ktn_ltOf (by assumption) | exact ktn_ltOf (And.right (by assumption)) | exact ktn_ltOf (And.right (And.right (by assumption))))) (by (first | assumption | exact lt1 (by assumption) | exact lt2 (by assumption) | exact ktn_ltOf (by assumption) | exact ktn_ltOf (And.right (by assumption)) | exact ktn_ltOf (And.right (And.right (by assumption)))))) (by show TyIn _ _ (t.rebuild ts); rw [ht, hts2]; first | exact .tup1 mB mC (TyIn.app (by assumption)) | exact .tup2 mB mC (TyIn.app (by assumption)) (TyIn.app (by assumption)) | exact .adtS mB (memL (by assumption)) mC (TyIn.app (by assumption)) | exact .adtR mB (memL (by assumption)) mC (TyIn.app (by assumption)))))
    · skip
      have hkbox := kind_box hq0
      (((try k_fold); k_steps; (try dsimp only); (repeat' (k_unfold; (try dsimp only))); exact SameH.mk _ (by assumption)))
  intro sA hA
  cases hA
  rename_i hc2
  refine split_tail (SameH ((t.kind == ("array" : Str)) = false) h9 x68.s) ?_ ?_
  · (try k_fold)
    by_cases hq0 : ∃ n u, t = Ty.arr n u
    · obtain ⟨n, u, ht⟩ := hq0
      have hkarray9 : (t.kind == ("array" : Str)) = true := by rw [ht]; rfl
      refine TyIn.arrE (ht ▸ hR) fun v1 k1 k1' n1' hm2 hv1 => ?_
      clear hm1
      refine len1 ((ht ▸ hlen : Ty.fits (.arr n u) ts)).1 fun u2 hts2 => ?_
      refine TyAll.e1 (hts2 ▸ hts) fun w1 ew hw1 => ?_
      subst ew
      ((k_steps; first | exact hret _ [] _ _ (by k_asm) (nz0 (by k_asm)) ord0 (TyIn.app (by first | exact .bool (by assumption) | exact .u8 (by assumption) | exact .par (by assumption))) | exact hret _ [_] _ _ (by k_asm) (nz1 (by k_asm)) (od1 (by (first | assumption | exact lt1 (by assumption) | exact lt2 (by assumption) | exact ktn_ltOf (by assumption) | exact ktn_ltOf (And.right (by assumption)) | exact ktn_ltOf (And.right (And.right (by assumption)))))) (by show TyIn _ _ (t.rebuild ts); rw [ht, hts2]; first | exact .box mA (TyIn.app (by assumption)) | exact .rf mA (TyIn.app (by assumption)) | exact .arr mA (TyIn.app (by assumption))) | exact hret _ [_, _] _ _ (by k_asm) (nz2 (by k_asm)) (od2 (by (first | assumption | exact lt1 (by assumption) | exact lt2 (by assumption) | exact ktn_ltOf (by assumption) | exact ktn_ltOf (And.right (by assumption)) | exact ktn_ltOf (And.right (And.right (by assumption))))) (by (first | assumption | exact lt1 (by assumption) | exact lt2 (by assumption) | exact ktn_ltOf (by assumption) | exact ktn_ltOf (And.right (by assumption)) | exact ktn_ltOf (And.right (And.right (by assumption)))))) (by show TyIn _ _ (t.rebuild ts); rw [ht, hts2]; first | exact .tup1 mB mC (TyIn.app (by assumption)) | exact .tup2 mB mC (TyIn.app (by assumption)) (TyIn.app (by assumption)) | exact .adtS mB (memL (by assumption)) mC (TyIn.app (by assumption)) | exact .adtR mB (memL (by assumption)) mC (TyIn.app (by assumption)))))
    · skip
      have hkarray := kind_array hq0
      (((try k_fold); k_steps; (try dsimp only); (repeat' (k_unfold; (try dsimp only))); exact SameH.mk _ (by assumption)))
  intro sA hA
  cases hA
  rename_i hc3
  refine split_tail (SameH ((t.kind == ("tuple" : Str)) = false) h9 x68.s) ?_ ?_
  · (try k_fold)
    by_cases hq0 : ∃ u, t = Ty.tup1 u
    · obtain ⟨u, ht⟩ := hq0
      have hktuple9 : (t.kind == ("tuple" : Str)) = true := by rw [ht]; rfl
      refine TyIn.tup1E (ht ▸ hR) fun b1 v1 k1 n1' n2' hm2 hm3 hv1 => ?_
      clear hm1
      refine len1 ((ht ▸ hlen : Ty.fits (.tup1 u) ts)).1 fun u2 hts2 => ?_
      refine TyAll.e1 (hts2 ▸ hts) fun w1 ew hw1 => ?_
      subst ew
      ((k_steps; first | exact hret _ [] _ _ (by k_asm) (nz0 (by k_asm)) ord0 (TyIn.app (by first | exact .bool (by assumption) | exact .u8 (by assumption) | exact .par (by assumption))) | exact hret _ [_] _ _ (by k_asm) (nz1 (by k_asm)) (od1 (by (first | assumption | exact lt1 (by assumption) | exact lt2 (by assumption) | exact ktn_ltOf (by assumption) | exact ktn_ltOf (And.right (by assumption)) | exact ktn_ltOf (And.right (And.right (by assumption)))))) (by show TyIn _ _ (t.rebuild ts); rw [ht, hts2]; first | exact .box mA (TyIn.app (by assumption)) | exact .rf mA (TyIn.app (by assumption)) | exact .arr mA (TyIn.app (by assumption))) | exact hret _ [_, _] _ _ (by k_asm) (nz2 (by k_asm)) (od2 (by (first | assumption | exact lt1 (by assumption) | exact lt2 (by assumption) | exact ktn_ltOf (by assumption) | exact ktn_ltOf (And.right (by assumption)) | exact ktn_ltOf (And.right (And.right (by assumption))))) (by (first | assumption | exact lt1 (by assumption) | exact lt2 (by assumption) | exact ktn_ltOf (by assumption) | exact ktn_ltOf (And.right (by assumption)) | exact ktn_ltOf (And.right (And.right (by assumption)))))) (by show TyIn _ _ (t.rebuild ts); rw [ht, hts2]; first | exact .tup1 mB mC (TyIn.app (by assumption)) | exact .tup2 mB mC (TyIn.app (by assumption)) (TyIn.app (by assumption)) | exact .adtS mB (memL (by assumption)) mC (TyIn.app (by assumption)) | exact .adtR mB (memL (by assumption)) mC (TyIn.app (by assumption)))))
    · skip
      by_cases hq1 : ∃ u, t = Ty.tup2 u
      · obtain ⟨u, ht⟩ := hq1
        have hktuple9 : (t.kind == ("tuple" : Str)) = true := by rw [ht]; rfl
        refine TyIn.tup2E (ht ▸ hR) fun b1 v1 v2 k1 n1' n2' hm2 hm3 hv1 hv2 => ?_
        clear hm1
        obtain ⟨u2, hts2⟩ := fits2 (ht ▸ hlen)
        refine TyAll.e2 (hts2 ▸ hts) fun w0 w1 ew hw0 hw1 => ?_
        subst ew
        ((k_steps; first | exact hret _ [] _ _ (by k_asm) (nz0 (by k_asm)) ord0 (TyIn.app (by first | exact .bool (by assumption) | exact .u8 (by assumption) | exact .par (by assumption))) | exact hret _ [_] _ _ (by k_asm) (nz1 (by k_asm)) (od1 (by (first | assumption | exact lt1 (by assumption) | exact lt2 (by assumption) | exact ktn_ltOf (by assumption) | exact ktn_ltOf (And.right (by assumption)) | exact ktn_ltOf (And.right (And.right (by assumption)))))) (by show TyIn _ _ (t.rebuild ts); rw [ht, hts2]; first | exact .box mA (TyIn.app (by assumption)) | exact .rf mA (TyIn.app (by assumption)) | exact .arr mA (TyIn.app (by assumption))) | exact hret _ [_, _] _ _ (by k_asm) (nz2 (by k_asm)) (od2 (by (first | assumption | exact lt1 (by assumption) | exact lt2 (by assumption) | exact ktn_ltOf (by assumption) | exact ktn_ltOf (And.right (by assumption)) | exact ktn_ltOf (And.right (And.right (by assumption))))) (by (first | assumption | exact lt1 (by assumption) | exact lt2 (by assumption) | exact ktn_ltOf (by assumption) | exact ktn_ltOf (And.right (by assumption)) | exact ktn_ltOf (And.right (And.right (by assumption)))))) (by show TyIn _ _ (t.rebuild ts); rw [ht, hts2]; first | exact .tup1 mB mC (TyIn.app (by assumption)) | exact .tup2 mB mC (TyIn.app (by assumption)) (TyIn.app (by assumption)) | exact .adtS mB (memL (by assumption)) mC (TyIn.app (by assumption)) | exact .adtR mB (memL (by assumption)) mC (TyIn.app (by assumption)))))
      · skip
        have hktuple := kind_tuple hq0 hq1
        (((try k_fold); k_steps; (try dsimp only); (repeat' (k_unfold; (try dsimp only))); exact SameH.mk _ (by assumption)))
  intro sA hA
  cases hA
  rename_i hc4
  (try k_fold)
  by_cases hq0 : ∃ u, t = Ty.adtS u
  · obtain ⟨u, ht⟩ := hq0
    have hkadt9 : (t.kind == ("adt" : Str)) = true := by rw [ht]; rfl
    refine TyIn.adtSE (ht ▸ hR) fun b1 c1 v1 k1 k1' n1' n2' n3' hm2 hm3 hm4 hv1 => ?_
    clear hm1
    refine len1 ((ht ▸ hlen : Ty.fits (.adtS u) ts)).1 fun u2 hts2 => ?_
    refine TyAll.e1 (hts2 ▸ hts) fun w1 ew hw1 => ?_
    subst ew
    ((k_steps; first | exact hret _ [] _ _ (by k_asm) (nz0 (by k_asm)) ord0 (TyIn.app (by first | exact .bool (by assumption) | exact .u8 (by assumption) | exact .par (by assumption))) | exact hret _ [_] _ _ (by k_asm) (nz1 (by k_asm)) (od1 (by (first | assumption | exact lt1 (by assumption) | exact lt2 (by assumption) | exact ktn_ltOf (by assumption) | exact ktn_ltOf (And.right (by assumption)) | exact ktn_ltOf (And.right (And.right (by assumption)))))) (by show TyIn _ _ (t.rebuild ts); rw [ht, hts2]; first | exact .box mA (TyIn.app (by assumption)) | exact .rf mA (TyIn.app (by assumption)) | exact .arr mA (TyIn.app (by assumption))) | exact hret _ [_, _] _ _ (by k_asm) (nz2 (by k_asm)) (od2 (by (first | assumption | exact lt1 (by assumption) | exact lt2 (by assumption) | exact ktn_ltOf (by assumption) | exact ktn_ltOf (And.right (by assumption)) | exact ktn_ltOf (And.right (And.right (by assumption))))) (by (first | assumption | exact lt1 (by assumption) | exact lt2 (by assumption) | exact ktn_ltOf (by assumption) | exact ktn_ltOf (And.right (by assumption)) | exact ktn_ltOf (And.right (And.right (by assumption)))))) (by show TyIn _ _ (t.rebuild ts); rw [ht, hts2]; first | exact .tup1 mB mC (TyIn.app (by assumption)) | exact .tup2 mB mC (TyIn.app (by assumption)) (TyIn.app (by assumption)) | exact .adtS mB (memL (by assumption)) mC (TyIn.app (by assumption)) | exact .adtR mB (memL (by assumption)) mC (TyIn.app (by assumption)))))
  · by_cases hq1 : ∃ r u, t = Ty.adtR r u
    · obtain ⟨r, u, ht⟩ := hq1
      have hkadt9 : (t.kind == ("adt" : Str)) = true := by rw [ht]; rfl
      refine TyIn.adtRE (ht ▸ hR) fun b1 c1 v1 k1 k1' k2' n1' n2' n3' hm2 hm3 hm4 hv1 => ?_
      clear hm1
      refine len1 ((ht ▸ hlen : Ty.fits (.adtR r u) ts)).1 fun u2 hts2 => ?_
      refine TyAll.e1 (hts2 ▸ hts) fun w1 ew hw1 => ?_
      subst ew
      ((k_steps; first | exact hret _ [] _ _ (by k_asm) (nz0 (by k_asm)) ord0 (TyIn.app (by first | exact .bool (by assumption) | exact .u8 (by assumption) | exact .par (by assumption))) | exact hret _ [_] _ _ (by k_asm) (nz1 (by k_asm)) (od1 (by (first | assumption | exact lt1 (by assumption) | exact lt2 (by assumption) | exact ktn_ltOf (by assumption) | exact ktn_ltOf (And.right (by assumption)) | exact ktn_ltOf (And.right (And.right (by assumption)))))) (by show TyIn _ _ (t.rebuild ts); rw [ht, hts2]; first | exact .box mA (TyIn.app (by assumption)) | exact .rf mA (TyIn.app (by assumption)) | exact .arr mA (TyIn.app (by assumption))) | exact hret _ [_, _] _ _ (by k_asm) (nz2 (by k_asm)) (od2 (by (first | assumption | exact lt1 (by assumption) | exact lt2 (by assumption) | exact ktn_ltOf (by assumption) | exact ktn_ltOf (And.right (by assumption)) | exact ktn_ltOf (And.right (And.right (by assumption))))) (by (first | assumption | exact lt1 (by assumption) | exact lt2 (by assumption) | exact ktn_ltOf (by assumption) | exact ktn_ltOf (And.right (by assumption)) | exact ktn_ltOf (And.right (And.right (by assumption)))))) (by show TyIn _ _ (t.rebuild ts); rw [ht, hts2]; first | exact .tup1 mB mC (TyIn.app (by assumption)) | exact .tup2 mB mC (TyIn.app (by assumption)) (TyIn.app (by assumption)) | exact .adtS mB (memL (by assumption)) mC (TyIn.app (by assumption)) | exact .adtR mB (memL (by assumption)) mC (TyIn.app (by assumption)))))
    · have hkadt := kind_adt hq0 hq1
      have hrb := rebuild_self (ts := ts) hc1 hc2 hc3 hc4 hkadt
      k_steps
      exact hret _ [] _ _ (by k_asm) (nz0 (by k_asm)) ord0 (by show TyIn _ _ (t.rebuild ts); rw [hrb]; exact TyIn.app hR)
theorem rebuilt_tells (w : World) (p : Program) (loose : List Str) (mean : ExcName → Option Value) (mg mb : Str → Option Value) (d : Ty × List Ty) :
    TellsX PySem.Challenge.rw_xw0159_01.row.prog w (hd.heap_1 w.params) p loose mean mg mb 68 rebT d := cut_is (C := cut68) (by delta x68; rfl) rebuilt_tells_b w p loose mean mg mb d
end Mine
end SP1
/-! L3 -/
section SL3
open PySem.Spec PySem.Calls
namespace Mine
/-! a contract of a def that turns a written part of the ledger: Pre before, Post behind -/
structure ToldM (D : Type) where
  Rel : List (Addr × Obj) → List (Addr × Obj) → List Value → D → Prop
  Pre : D → List (Addr × Obj)
  Post : D → List (Addr × Obj) → Prop
  size : D → Nat
  Out : List (Addr × Obj) → Value → D → Prop

noncomputable def TellsM {D : Type} (prog : Program) (w : World) (K : Frag) (p : Program) (loose : List Str) (mean : ExcName → Option Value) (mg mb : Str → Option Value) (f : Addr) (c : ToldM D) (d : D) : Prop :=
  ∀ (dp un : Nat) (gd : Option (List Code)) (cn : Str) (cs : Scope) (a : Addr) (ccd : Value) (cl : List (Str × Addr)) (outer : List Env) (A₀ : Around) (base h₀ : Heap) (L : Addr) (m : Str → Option Value) (ext news : List (Addr × Obj)) (s : Shared) (vs : List Value)
    (Q E : Value → Shared → Prop),
    Below A₀ base outer h₀ → Fr h₀ L s.heap m → K.In h₀ → News h₀ L s.heap (c.Pre d ++ (ext ++ news)) → (∀ q ∈ c.Pre d, ∀ p ∈ ext ++ news, p.1 ≠ q.1) → Top p loose mean mg mb h₀ → cs.kind = .function → c.Rel (ext ++ news) news vs d → dp + c.size d < recursionLimit → un + 8 * c.size d < cLine →
    (∀ r l' tl h' tk', c.Post d l' → Fr h₀ L h' m → News h₀ L h' (l' ++ (ext ++ (news ++ tl))) → (∀ q ∈ c.Pre d ++ (ext ++ news), ∀ p ∈ tl, q.1 < p.1) → c.Out (news ++ tl) r d → Q r { s with heap := h', toks := tk' }) →
    wpAny (model prog w) (ktrTop dp un gd cn cs L a ccd cl outer) (call (.ref f) vs) Q E s
section
variable {D : Type} {prog : Program} {w : World} {K : Frag} {p : Program} {loose : List Str} {mean : ExcName → Option Value} {mg mb : Str → Option Value} {f : Addr} {c : ToldM D}
theorem tellsM_of (step : ∀ d, (∀ d', c.size d' < c.size d → TellsM prog w K p loose mean mg mb f c d') → TellsM prog w K p loose mean mg mb f c d) : ∀ d, TellsM prog w K p loose mean mg mb f c d := by
  have all : ∀ n, ∀ d, c.size d < n → TellsM prog w K p loose mean mg mb f c d := by
    intro n
    induction n with
    | zero => intro d h; exact absurd h (Nat.not_lt_zero _)
    | succ n ih => exact fun d h => step d fun d' h' => ih d' (Nat.lt_of_lt_of_le h' (Nat.le_of_lt_succ h))
  exact fun d => all _ d (Nat.lt_succ_self _)
/-- the call: `rest` stands aside of Pre, the datum is said over `core` -/
theorem tellsM_use {d : D} {dp un : Nat} {gd : Option (List Code)} {cn : Str} {cs : Scope} {a : Addr} {ccd : Value} {cl : List (Str × Addr)} {outer : List Env} {A₀ : Around} {base h₀ : Heap} {L : Addr} {m : Str → Option Value} {all : List (Addr × Obj)} {s : Shared} {vs : List Value}
    {Q E : Value → Shared → Prop} (rest core : List (Addr × Obj)) (B : Below A₀ base outer h₀) (F : Fr h₀ L s.heap m) (X : K.In h₀) (N : News h₀ L s.heap all) (T : Top p loose mean mg mb h₀) (hk : cs.kind = .function) (C : TellsM prog w K p loose mean mg mb f c d)
    (hP : ∀ p ∈ c.Pre d, p ∈ all) (hr : ∀ p ∈ rest, p ∈ all) (hs : ∀ p ∈ core, p ∈ rest) (off : ∀ q ∈ c.Pre d, ∀ p ∈ rest, p.1 ≠ q.1) (R : c.Rel (rest ++ core) core vs d)
    (hd : dp + c.size d < recursionLimit) (hu : un + 8 * c.size d < cLine)
    (ret : ∀ r l' tl h' tk', c.Post d l' → Fr h₀ L h' m → News h₀ L h' (l' ++ (rest ++ tl)) → (∀ q ∈ c.Pre d ++ rest, ∀ p ∈ tl, q.1 < p.1) → c.Out (core ++ tl) r d → Q r { s with heap := h', toks := tk' }) :
    wpAny (model prog w) (ktrTop dp un gd cn cs L a ccd cl outer) (call (.ref f) vs) Q E s :=
  C _ _ _ _ _ _ _ _ _ _ _ _ _ _ rest core _ _ _ _ B F X (fun p hp => N p ((List.mem_append.mp hp).elim (hP p) fun h => (List.mem_append.mp h).elim (hr p) fun h => hr p (hs p h))) (fun q hq p hp => off q hq p ((List.mem_append.mp hp).elim id (hs p))) T hk R hd hu fun r l' tl h' tk' hp' F' N' o out =>
    ret r l' tl h' tk' hp' F' (fun p hp => N' p ((List.mem_append.mp hp).elim (fun h => memL h) fun h => (List.mem_append.mp h).elim (fun h => memR (memL h)) fun h => memR (memR (memR h)))) (fun q hq => o q ((List.mem_append.mp hq).elim (fun h => memL h) fun h => memR (memL h))) out
end

/-! the regions of a type, and a turn of them -/
noncomputable def Ty.mapR (g : Str → Str) : Ty → Ty
  | .bool => .bool
  | .u8 => .u8
  | .par x => .par x
  | .box t => .box (mapR g t)
  | .rf r t => .rf (g r) (mapR g t)
  | .arr n t => .arr n (mapR g t)
  | .tup1 t => .tup1 (mapR g t)
  | .tup2 t => .tup2 (mapR g t)
  | .adtS t => .adtS (mapR g t)
  | .adtR r t => .adtR (g r) (mapR g t)
noncomputable def Ty.regs : Ty → List Str
  | .bool | .u8 | .par _ => []
  | .box t | .arr _ t | .tup1 t | .tup2 t | .adtS t => t.regs
  | .rf r t | .adtR r t => r :: t.regs
/-- the type behind the first part of with_regions: its own regions turned, its parts not yet -/
noncomputable def Ty.top (g : Str → Str) : Ty → Ty
  | .rf r t => .rf (g r) t
  | .adtR r t => .adtR (g r) t
  | t => t
noncomputable def Ty.topRegs : Ty → List Str
  | .rf r _ => [r]
  | .adtR r _ => [r]
  | _ => []
theorem Ty.top_parts {g : Str → Str} {t : Ty} : (t.top g).parts = t.parts := by cases t <;> rfl
theorem Ty.top_rebuild {g : Str → Str} {t : Ty} : (t.top g).rebuild (t.parts.map (Ty.mapR g)) = t.mapR g := by cases t <;> rfl
theorem Ty.top_fits {g : Str → Str} {t : Ty} : (t.top g).fits (t.parts.map (Ty.mapR g)) := by cases t <;> simp [Ty.fits, Ty.top, Ty.parts, Ty.mapR]
theorem Ty.regs_split (t : Ty) : t.regs = t.topRegs ++ t.parts.flatMap Ty.regs := by
  cases t <;> simp [Ty.parts, Ty.topRegs, Ty.regs]
inductive StrAll : List Value → List Str → Prop
  | nil : StrAll [] []
  | cons {x : Str} {tk : Tok} {vs : List Value} {xs : List Str} : StrAll vs xs → StrAll (.str x tk :: vs) (x :: xs)
theorem StrAll.app {vs ws : List Value} {xs ys : List Str} (h : StrAll vs xs) (k : StrAll ws ys) : StrAll (vs ++ ws) (xs ++ ys) := by
  induction h with
  | nil => exact k
  | cons _ ih => exact .cons ih
/-- the state behind a type's regions -/
noncomputable def Turned {σ : Type} (nx : σ → Value → σ) (c : σ) (xs : List Str) (c' : σ) : Prop := ∃ ws, StrAll ws xs ∧ c' = ws.foldl nx c
theorem Turned.app {σ : Type} {nx : σ → Value → σ} {c c1 c2 : σ} {xs ys : List Str} (h : Turned nx c xs c1) (k : Turned nx c1 ys c2) : Turned nx c (xs ++ ys) c2 := by
  obtain ⟨ws, h1, rfl⟩ := h
  obtain ⟨us, h2, rfl⟩ := k
  exact ⟨ws ++ us, h1.app h2, by simp⟩
theorem Turned.nil {σ : Type} {nx : σ → Value → σ} {c : σ} : Turned nx c [] c := ⟨[], .nil, rfl⟩
theorem Turned.chain {σ : Type} {nx : σ → Value → σ} {c c' : σ} {ts : List Ty} (h : Chain (fun c t c' => Turned nx c t.regs c') c ts c') : Turned nx c (ts.flatMap Ty.regs) c' := by
  induction h with
  | nil => exact .nil
  | cons a _ ih => simpa using a.app ih
end Mine
namespace Mine
/-- what lies aside of the turned part, however far it has turned -/
noncomputable def OffP {σ : Type} (P : σ → List (Addr × Obj)) (l : List (Addr × Obj)) : Prop := ∀ xs, ∀ q ∈ P xs, ∀ p ∈ l, p.1 ≠ q.1
section
variable {σ : Type} {P : σ → List (Addr × Obj)} {l l' tl : List (Addr × Obj)} {x y : Addr × Obj} {xs ys : σ}
theorem OffP.of (hPa : ∀ xs ys, (P xs).map (·.1) = (P ys).map (·.1)) (h : ∀ q ∈ P xs, ∀ p ∈ l, p.1 ≠ q.1) : OffP P l := fun ys q hq p hp => by
  have : q.1 ∈ (P xs).map (·.1) := hPa ys xs ▸ List.mem_map_of_mem hq
  obtain ⟨q', hq', e⟩ := List.mem_map.mp this
  exact e ▸ h q' hq' p hp
theorem OffP.app (h : OffP P l) (h' : OffP P l') : OffP P (l ++ l') := fun xs q hq p hp => (List.mem_append.mp hp).elim (h xs q hq p) (h' xs q hq p)
theorem OffP.cons (h : OffP P [x]) (h' : OffP P l) : OffP P (x :: l) := OffP.app h h'
theorem OffP.ord (hPa : ∀ xs ys, (P xs).map (·.1) = (P ys).map (·.1)) (h : ∀ q ∈ P xs ++ l, ∀ p ∈ tl, q.1 < p.1) : OffP P tl := OffP.of hPa (xs := xs) fun q hq p hp => Nat.ne_of_gt (h q (memL hq) p hp)
theorem OffP.lt (hPa : ∀ xs ys, (P xs).map (·.1) = (P ys).map (·.1)) (h : ∀ q ∈ P xs, q.1 < x.1) : OffP P [x] := OffP.of hPa (xs := xs) fun q hq p hp => by
  simp at hp; subst hp; exact Nat.ne_of_gt (h q hq)
theorem OffP.sub (h : OffP P l) (hs : ∀ p ∈ l', p ∈ l) : OffP P l' := fun xs q hq p hp => h xs q hq p (hs p hp)
theorem ordP (hPa : ∀ xs ys, (P xs).map (·.1) = (P ys).map (·.1)) (h : ∀ q ∈ P xs ++ l, ∀ p ∈ tl, q.1 < p.1) : ∀ q ∈ P ys ++ l, ∀ p ∈ tl, q.1 < p.1 := ord_addr (l := P xs ++ l) (by simp [hPa xs ys]) h
theorem off3P {I C D : Addr} {oI oC oD : Obj} (h : LCg.Off3 I C D (P xs ++ l)) (hPa : ∀ xs ys, (P xs).map (·.1) = (P ys).map (·.1)) : OffP P [(I, oI), (C, oC), (D, oD)] := OffP.of hPa (xs := xs) fun q hq p hp => by
  have := h.mem q (memL hq)
  simp at hp
  rcases hp with rfl | rfl | rfl
  · exact fun e => this.1 e.symm
  · exact fun e => this.2.1 e.symm
  · exact fun e => this.2.2 e.symm
end
end Mine
namespace Mine
theorem off3T {I C D : Addr} {x : Addr × Obj} {l : List (Addr × Obj)} (h : LCg.Off3 I C D (x :: l)) : LCg.Off3 I C D l := h.2
end Mine
end SL3
/-! L4 -/
section SL4
open PySem.Spec PySem.Calls
namespace Mine
noncomputable def Ty.data : Ty → PyData
  | .bool => .tuple [.str "bool"]
  | .u8 => .tuple [.str "int", .str "u8"]
  | .par x => .tuple [.str "param", .str x]
  | .box t => .tuple [.str "box", t.data]
  | .rf r t => .tuple [.str "ref", .str r, .bool false, t.data]
  | .arr n t => .tuple [.str "array", t.data, .int n]
  | .tup1 t => .tuple [.str "tuple", .tuple [t.data]]
  | .tup2 t => .tuple [.str "tuple", .tuple [.tuple [.str "int", .str "u8"], t.data]]
  | .adtS t => .tuple [.str "adt", .str "S", .tuple [], .tuple [t.data]]
  | .adtR r t => .tuple [.str "adt", .str "R", .tuple [.str r], .tuple [t.data]]
/-- the words that stand in it can be laid -/
noncomputable def Ty.ok : Ty → Prop
  | .bool | .u8 => True
  | .par x => PyData.strOk x = true
  | .box t | .arr _ t | .tup1 t | .tup2 t | .adtS t => t.ok
  | .rf r t | .adtR r t => PyData.strOk r = true ∧ t.ok
theorem Ty.data_canLay : ∀ {t : Ty}, t.ok → t.data.canLay0 = true := by
  intro t
  have w1 : PyData.strOk (Str.ofString "bool") = true := by decide +kernel
  have w2 : PyData.strOk (Str.ofString "int") = true := by decide +kernel
  have w3 : PyData.strOk (Str.ofString "u8") = true := by decide +kernel
  have w4 : PyData.strOk (Str.ofString "param") = true := by decide +kernel
  have w5 : PyData.strOk (Str.ofString "box") = true := by decide +kernel
  have w6 : PyData.strOk (Str.ofString "ref") = true := by decide +kernel
  have w7 : PyData.strOk (Str.ofString "array") = true := by decide +kernel
  have w8 : PyData.strOk (Str.ofString "tuple") = true := by decide +kernel
  have w9 : PyData.strOk (Str.ofString "adt") = true := by decide +kernel
  have wS : PyData.strOk (Str.ofString "S") = true := by decide +kernel
  have wR : PyData.strOk (Str.ofString "R") = true := by decide +kernel
  induction t <;> simp_all [Ty.data, PyData.canLay0, PyData.canLayAll0, Ty.ok]
theorem Ty.data_depth : ∀ t : Ty, t.data.depth ≤ 2 * t.depth + 1 := by
  intro t
  induction t <;> simp_all [Ty.data, PyData.depth, PyData.depthAll, Ty.depth] <;> omega
theorem readsTup {h : Heap} {a : Addr} {vs : List Value} {n : Nat} {ds : List PyData} (e : h.get? a = some (tupO vs n)) (r : ReadsAll h vs ds []) : Reads h (.ref a) (.tuple ds) [] := .tuple e rfl rfl (by simpa using r)
theorem readsCons {h : Heap} {v : Value} {vs : List Value} {d : PyData} {ds : List PyData} (a : Reads h v d []) (r : ReadsAll h vs ds []) : ReadsAll h (v :: vs) (d :: ds) [] := ReadsAll.cons (as := []) (bs := []) a r
theorem TyIn.reads {h₀ h : Heap} {L : Addr} {news : List (Addr × Obj)} (N : News h₀ L h news) {v : Value} {t : Ty} (i : TyIn news v t) : Reads h v t.data [] := by
  induction i with
  | bool a => exact readsTup (N _ a).1 (readsCons (.str _ _) .nil)
  | u8 a => exact readsTup (N _ a).1 (readsCons (.str _ _) (readsCons (.str _ _) .nil))
  | par a => exact readsTup (N _ a).1 (readsCons (.str _ _) (readsCons (.str _ _) .nil))
  | box a _ ih => exact readsTup (N _ a).1 (readsCons (.str _ _) (readsCons ih .nil))
  | rf a _ ih => exact readsTup (N _ a).1 (readsCons (.str _ _) (readsCons (.str _ _) (readsCons (.bool _) (readsCons ih .nil))))
  | arr a _ ih => exact readsTup (N _ a).1 (readsCons (.str _ _) (readsCons ih (readsCons (.int _ _) .nil)))
  | tup1 a b _ ih => exact readsTup (N _ a).1 (readsCons (.str _ _) (readsCons (readsTup (N _ b).1 (readsCons ih .nil)) .nil))
  | tup2 a b _ _ ih ih' => exact readsTup (N _ a).1 (readsCons (.str _ _) (readsCons (readsTup (N _ b).1 (readsCons ih (readsCons ih' .nil))) .nil))
  | adtS a b c _ ih => exact readsTup (N _ a).1 (readsCons (.str _ _) (readsCons (.str _ _) (readsCons (readsTup (N _ b).1 .nil) (readsCons (readsTup (N _ c).1 (readsCons ih .nil)) .nil))))
  | adtR a b c _ ih => exact readsTup (N _ a).1 (readsCons (.str _ _) (readsCons (.str _ _) (readsCons (readsTup (N _ b).1 (readsCons (.str _ _) .nil)) (readsCons (readsTup (N _ c).1 (readsCons ih .nil)) .nil))))
theorem TyAll.reads {h₀ h : Heap} {L : Addr} {news : List (Addr × Obj)} (N : News h₀ L h news) {vs : List Value} {ts : List Ty} (i : TyAll news vs ts) : ReadsAll h vs (ts.map Ty.data) [] := by
  induction i with
  | nil => exact .nil
  | cons a _ ih => exact readsCons (a.reads N) ih
theorem readsList {h : Heap} {a : Addr} {vs : List Value} {n : Nat} {ds : List PyData} (e : h.get? a = some (listOf vs.toArray n)) (r : ReadsAll h vs ds []) : Reads h (.ref a) (.list ds) [a] := .list (as := []) e rfl rfl (by simpa using r)
theorem ev_tt (xs ys : List PyData) : PyData.eqv (.tuple xs) (.tuple ys) = PyData.eqvAll xs ys := rfl
theorem ev_ss (x y : Str) : PyData.eqv (.str x) (.str y) = (x == y) := rfl
theorem ev_ii (x y : Int) : PyData.eqv (.int x) (.int y) = (x == y) := rfl
theorem ev_bb (x y : Bool) : PyData.eqv (.bool x) (.bool y) = (x == y) := rfl
theorem ev_st (x : Str) (ys : List PyData) : PyData.eqv (.str x) (.tuple ys) = false := rfl
theorem ev_ts (x : Str) (ys : List PyData) : PyData.eqv (.tuple ys) (.str x) = false := rfl
theorem ev_it (x : Int) (ys : List PyData) : PyData.eqv (.int x) (.tuple ys) = false := rfl
theorem ev_bt (x : Bool) (ys : List PyData) : PyData.eqv (.bool x) (.tuple ys) = false := rfl
theorem ev_tb (x : Bool) (ys : List PyData) : PyData.eqv (.tuple ys) (.bool x) = false := rfl
theorem ev_nn : PyData.eqvAll [] [] = true := rfl
theorem ev_cc (x y : PyData) (xs ys : List PyData) : PyData.eqvAll (x :: xs) (y :: ys) = (PyData.eqv x y && PyData.eqvAll xs ys) := rfl
theorem ev_nc (y : PyData) (ys : List PyData) : PyData.eqvAll [] (y :: ys) = false := rfl
theorem ev_cn (y : PyData) (ys : List PyData) : PyData.eqvAll (y :: ys) [] = false := rfl
theorem Ty.eqv_data : ∀ t u : Ty, PyData.eqv t.data u.data = decide (t = u) := by
  have e : ∀ a b : String, (Str.ofString a == Str.ofString b) = decide (Str.ofString a = Str.ofString b) := fun a b => by
    by_cases h : Str.ofString a = Str.ofString b <;> simp [h]
  intro t
  induction t <;> intro u <;> cases u <;> simp only [Ty.data, ev_tt, ev_ss, ev_ii, ev_bb, ev_st, ev_ts, ev_it, ev_bt, ev_tb, ev_nn, ev_cc, ev_nc, ev_cn, Bool.and_true, Bool.and_false, Bool.false_and] <;> first
    | rfl
    | decide +kernel
    | (rename_i ih _; rw [ih]; simp; done)
    | (rename_i ih _ _; rw [ih]; simp; done)
    | (simp; done)
    | (rename_i r t ih r' t'; rw [ih]; by_cases h1 : r = r' <;> by_cases h2 : t = t' <;> simp [h1, h2]; done)
    | (rename_i r r'; by_cases h1 : r = r' <;> simp [h1]; done)
theorem Ty.list_canLay {ts : List Ty} (h : ∀ t ∈ ts, t.ok) : (PyData.list (ts.map Ty.data)).canLay0 = true := by
  simp only [PyData.canLay0]
  induction ts with
  | nil => rfl
  | cons t r ih => simp [PyData.canLayAll0, Ty.data_canLay (h t (.head _)), ih fun t ht => h t (.tail _ ht)]

section
variable {prog : Program} {w : World} {A : Around} {E : Value → Shared → Prop} {Q : Flow → Shared → Prop} {s : Shared} {env : Env} {h₀ : Heap} {L : Addr}
noncomputable def StepR (h₀ : Heap) (L : Addr) (s : Shared) (J : Nat → (Str → Option Value) → List (Addr × Obj) → Prop) (n : Nat) (Q : Flow → Shared → Prop) (f : Flow) (s₃ : Shared) : Prop :=
  match f with
  | .ret v => Q (.ret v) s₃
  | .brk => Q .next s₃
  | _ => ∃ h' tk m₂ news₂ n', s₃ = { s with heap := h', toks := tk } ∧ Fr h₀ L h' m₂ ∧ News h₀ L h' news₂ ∧ n' < n ∧ J n' m₂ news₂
theorem StepR.next {J : Nat → (Str → Option Value) → List (Addr × Obj) → Prop} {n n' tk : Nat} {h' : Heap} {m₂ : Str → Option Value} {news₂ : List (Addr × Obj)}
    (F : Fr h₀ L h' m₂) (N : News h₀ L h' news₂) (hn : n' < n) (hJ : J n' m₂ news₂) : StepR h₀ L s J n Q .next { s with heap := h', toks := tk } := ⟨h', tk, m₂, news₂, n', rfl, F, N, hn, hJ⟩
theorem StepR.ret {J : Nat → (Str → Option Value) → List (Addr × Obj) → Prop} {n : Nat} {v : Value} {s₃ : Shared} (h : Q (.ret v) s₃) : StepR h₀ L s J n Q (.ret v) s₃ := h
theorem While_invR {test : Expr} {body : List Stmt} {pos : Pos} {m : Str → Option Value} {news : List (Addr × Obj)} (J : Nat → (Str → Option Value) → List (Addr × Obj) → Prop) {n₀ : Nat}
    (F : Fr h₀ L s.heap m) (N : News h₀ L s.heap news) (hJ : J n₀ m news)
    (turn : ∀ n m₁ news₁ h₁ tk₁, Fr h₀ L h₁ m₁ → News h₀ L h₁ news₁ → J n m₁ news₁ →
      wpAny (model prog w) A (isTrue test env (eval test env)) (fun b s₂ =>
        if b = true then wpAny (model prog w) A (execs body env) (StepR h₀ L s J n Q) E s₂ else Q .next s₂) E { s with heap := h₁, toks := tk₁ })
    (hE : PassesOwn (model prog w) A env E := by passes_own) :
    wpAny (model prog w) A (exec (.While test body [] pos) env) Q E s := by
  refine wpAny_While (codeAny_whileLoop (fun n s' => ∃ h₁ tk₁ m₁ news₁, s' = { s with heap := h₁, toks := tk₁ } ∧ Fr h₀ L h₁ m₁ ∧ News h₀ L h₁ news₁ ∧ J n m₁ news₁) ?_ n₀ ⟨s.heap, s.toks, m, news, rfl, F, N, hJ⟩)
  rintro n s' ⟨h₁, tk₁, m₁, news₁, rfl, F₁, N₁, J₁⟩
  refine wpAny_mono (turn n m₁ news₁ h₁ tk₁ F₁ N₁ J₁) (fun b s₂ h₂ => ?_) hE
  cases b with
  | false =>
    simp only [Bool.false_eq_true, if_false] at h₂ ⊢
    exact wpAny_execs_nil h₂
  | true =>
    simp only [if_true] at h₂ ⊢
    refine wpAny_mono h₂ (fun f s₃ h₃ => ?_) hE
    cases f with
    | ret v => exact h₃
    | brk => exact h₃
    | next =>
      obtain ⟨h', tk, m₂, news₂, n', rfl, F₂, N₂, hn, J₂⟩ := h₃
      exact ⟨n', hn, h', tk, m₂, news₂, rfl, F₂, N₂, J₂⟩
    | cont =>
      obtain ⟨h', tk, m₂, news₂, n', rfl, F₂, N₂, hn, J₂⟩ := h₃
      exact ⟨n', hn, h', tk, m₂, news₂, rfl, F₂, N₂, J₂⟩
end
end Mine
end SL4
/-! L5 -/
section SL5
open PySem.Spec PySem.Calls
namespace Mine
section
variable {prog : Program} {w : World} {A : Around} {E : Value → Shared → Prop} {s : Shared} {h₀ : Heap} {L l b : Addr} {m : Str → Option Value} {all rest : List (Addr × Obj)} {vs ws : List Value} {n n2 : Nat} {v : Value} {Q : Value → Shared → Prop}
/-- a list of the ledger is popped -/
theorem my_pop (rest : List (Addr × Obj)) (F : Fr h₀ L s.heap m) (N : News h₀ L s.heap all) (hl : (l, listOf (vs ++ [v]).toArray n) ∈ all) (hr : ∀ p ∈ rest, p ∈ all) (hne : ∀ p ∈ rest, p.1 ≠ l) (hz : (vs ++ [v]).length ≤ sizeLine)
    (h : ∀ h', Fr h₀ L h' m → News h₀ L h' ((l, listOf vs.toArray (n + 1)) :: rest) → Q v { s with heap := h' }) : wpAny (model prog w) A (call (.builtin "list.pop") [.ref l]) Q E s := by
  have e : kl_last (vs ++ [v]) = some (vs, v) := by
    clear hz hl h N F
    induction vs with
    | nil => rfl
    | cons x r ih =>
      cases r with
      | nil => rfl
      | cons y r => simp only [List.cons_append] at ih ⊢; unfold kl_last; rw [ih]
  exact kl_pop F (nsub (l' := (l, listOf (vs ++ [v]).toArray n) :: rest) N (fun p hp => by
    rcases List.mem_cons.mp hp with rfl | hp
    · exact hl
    · exact hr p hp)) (by simpa using e) (Upd.head hne) (by simpa using hz) h
theorem my_append (rest : List (Addr × Obj)) (F : Fr h₀ L s.heap m) (N : News h₀ L s.heap all) (hl : (l, listOf vs.toArray n) ∈ all) (hr : ∀ p ∈ rest, p ∈ all) (hne : ∀ p ∈ rest, p.1 ≠ l) (hz : vs.length ≤ sizeLine)
    (h : ∀ h', Fr h₀ L h' m → News h₀ L h' ((l, listOf (vs ++ [v]).toArray (n + 1)) :: rest) → Q .none { s with heap := h' }) : wpAny (model prog w) A (call (.builtin "list.append") [.ref l, v]) Q E s :=
  append_K F (nsub (l' := (l, listOf vs.toArray n) :: rest) N (fun p hp => by
    rcases List.mem_cons.mp hp with rfl | hp
    · exact hl
    · exact hr p hp)) (Upd.head hne) (fun h' F' N' => h h' F' (by rw [← List.push_toArray]; exact N')) (by simpa using hz)
theorem my_extend (rest : List (Addr × Obj)) (F : Fr h₀ L s.heap m) (N : News h₀ L s.heap all) (hl : (l, listOf vs.toArray n) ∈ all) (hb : s.heap.get? b = some (tupO ws n2)) (hr : ∀ p ∈ rest, p ∈ all) (hne : ∀ p ∈ rest, p.1 ≠ l) (hz : vs.length + ws.length ≤ sizeLine)
    (h : ∀ h' n', Fr h₀ L h' m → News h₀ L h' ((l, listOf (vs ++ ws).toArray n') :: rest) → Q .none { s with heap := h' }) : wpAny (model prog w) A (call (.builtin "list.extend") [.ref l, .ref b]) Q E s := by
  have z := N _ hl
  refine call_meets PySem.F.slot_list_extend ⟨_, z.1, rfl⟩ PySem.F.entry_list_extend (PySem.F.args_list_extend_2 _ _) (PySem.AutoSeq1.list_extend_list_tuple_0 l vs.toArray n b ws.toArray n2 ?_ ?_ ?_)
    ⟨z.1, hb, h _ (if ((vs.toArray ++ ws.toArray).size == vs.toArray.size) = true then n else n + 1) (F.change (Heap.SameBut.update ..) z.2.1 z.2.2) ?_⟩
  · simp [Builtin.List.listTooLong]
    intro _
    omega
  · simp; omega
  · simp; omega
  · have q := PySem.IsL.update z.1 (fun x => x ++ ws.toArray)
    intro p hp
    rcases List.mem_cons.mp hp with rfl | hp
    · refine ⟨?_, z.2⟩
      rw [List.append_toArray] at q
      simpa using q
    · exact ⟨(Heap.get?_update_ne _ _ _ _ (hne p hp)).trans (N p (hr p hp)).1, (N p (hr p hp)).2⟩
end
end Mine
end SL5
/-! L6 -/
section SL6
open PySem.Spec PySem.Calls
namespace Mine
section
variable {prog : Program} {w : World} {A : Around} {E : Value → Shared → Prop} {s : Shared} {h₀ : Heap} {L : Addr} {m : Str → Option Value} {news : List (Addr × Obj)}
theorem sliceApplied_rev {sl : Addr} {n : Nat} {u : Tok} {Q : Int × Int × Nat → Shared → Prop} (hs : s.heap.IsSliceOf sl .none .none (.int (-1) u)) (h : Q ((n : Int) - 1, -1, n) s) :
    wpAny (model prog w) A (Builtin.Slice.sliceApplied (.ref sl) (pure (n : Int))) Q E s := by
  obtain ⟨os, hos, hcs, hds⟩ := id hs
  unfold Builtin.Slice.sliceApplied Builtin.Slice.sliceFields
  refine wpAny_bind (wpAny_bind (wpAny_field hos hds (x := .none) rfl (wpAny_bind (wpAny_field hos hds (x := .none) rfl (wpAny_bind (wpAny_field hos hds (x := .int (-1) u) rfl (wpAny_pure ?_)))))))
  refine wpAny_bind (slicePart_int ?_)
  show wpAny _ _ (if ((-1 : Int) == 0) = true then _ else _) _ _ s
  rw [if_neg (by decide)]
  refine wpAny_bind (slicePart_none (wpAny_bind (slicePart_none (wpAny_bind (wpAny_pure ?_)))))
  show wpAny _ _ (match Builtin.Slice.sliceAdjust none none (-1) (n : Int) with | (lo, hi) => pure (lo, (-1 : Int), Builtin.Slice.slicePlaces lo hi (-1))) _ _ s
  have e1 : Builtin.Slice.sliceAdjust none none (-1) (n : Int) = ((n : Int) - 1, -1) := by simp [Builtin.Slice.sliceAdjust]
  have e2 : Builtin.Slice.slicePlaces ((n : Int) - 1) (-1) (-1) = n := by
    unfold Builtin.Slice.slicePlaces
    rw [if_neg (by decide)]
    by_cases h : n = 0
    · subst h; decide
    · rw [if_pos (by omega)]
      have : ((n : Int) - 1 - -1 - 1) / (- -1) + 1 = n := by rw [show (- -1 : Int) = 1 by decide, Int.ediv_one]; omega
      rw [this]; simp
  rw [e1]
  show wpAny _ _ (pure ((n : Int) - 1, (-1 : Int), Builtin.Slice.slicePlaces ((n : Int) - 1) (-1) (-1))) _ _ s
  rw [e2]
  exact wpAny_pure h

theorem pick_rev (xs : List Value) (h : xs.length ≤ 2) : ((List.range xs.toArray.size).filterMap fun (k : Nat) => xs.toArray[((xs.toArray.size : Int) - 1 + (k : Int) * -1).toNat]?).toArray = xs.reverse.toArray := by
  rcases xs with _ | ⟨a, _ | ⟨b, _ | ⟨c, xs⟩⟩⟩
  · rfl
  · rfl
  · rfl
  · simp at h

theorem getItem_tuple_rev {t sl : Addr} {xs : List Value} {u : Tok} {Q : Value → Shared → Prop} (ht : IsTup s.heap t xs.toArray) (hs : s.heap.IsSliceOf sl .none .none (.int (-1) u)) (hx : xs.length ≤ 2)
    (h : Q (.ref s.heap.objs.size) { s with heap := s.heap.push { cls := .type "tuple", data := .seq xs.reverse.toArray } }) : wpAny (model prog w) A (getItem (.ref t) (.ref sl)) Q E s := by
  have hz : sizeOk (.seq xs.reverse.toArray) := by
    show xs.reverse.toArray.size ≤ sizeLine
    rw [List.size_toArray, List.length_reverse]
    exact Nat.le_trans hx (by decide)
  obtain ⟨os, hos, hcs, hds⟩ := id hs
  have hTs : s.TypeIs (.ref sl) "slice" := ⟨os, hos, hcs⟩
  unfold getItem
  try with_reducible refine wpAny_holding ?_
  first | refine wpAny_bind (wpAny_pure ?_) | skip
  refine wpAny_bind (wpAny_sequenceKey ht.typeIs (by decide) ?_)
  refine wpAny_bind (wpAny_callSpecial?_slot (name := Str.ofString "__getitem__") ht.typeIs slot_tuple_getitem
    (wpAny_call_entry slot_tuple_getitem ht.typeIs entry_tuple_getitem ?_ (args_tuple_getitem _ _)))
  show wpAny _ _ (Builtin.Tuple.tupleItemsOf (.ref t) >>= _) _ _ s
  refine wpAny_bind (tupleItemsOf_ ht ?_)
  refine wpAny_bind (wpAny_typeOf hTs ?_)
  rw [if_pos (by decide)]
  refine wpAny_bind (sliceApplied_rev hs ?_)
  have hno : ¬ (((xs.toArray.size : Int) - 1 == 0 && (-1 : Int) == 1 && xs.toArray.size == xs.toArray.size) = true) := by simp
  show wpAny _ _ (if ((xs.toArray.size : Int) - 1 == 0 && (-1 : Int) == 1 && xs.toArray.size == xs.toArray.size) = true then _ else _) _ _ s
  rw [if_neg hno, pick_rev xs hx]
  first
    | exact wpAny_bind (m := Builtin.Tuple.tupleExact _) (wpAny_newObj_type (wpAny_pure ⟨_, rfl, wpAny_pure h⟩) hz)
    | exact wpAny_bind (m := Builtin.Tuple.tupleExact _) (wpAny_newObj_type (wpAny_bind (wpAny_pure (wpAny_pure ⟨_, rfl, wpAny_pure h⟩))) hz)
    | exact wpAny_bind (wpAny_bind (m := Builtin.Tuple.tupleExact _) (wpAny_newObj_type (wpAny_pure (wpAny_pure ⟨_, rfl, wpAny_pure h⟩)) hz))
    | exact wpAny_bind (wpAny_bind (m := Builtin.Tuple.tupleExact _) (wpAny_newObj_type (wpAny_pure ⟨_, rfl, wpAny_pure h⟩) hz))

theorem slice_tuple_rev {value slice : Expr} {ops : List Value} {t : Addr} {xs : List Value} {n : Nat} {u : Tok} {Q : Value → Shared → Prop}
    (F : Fr h₀ L s.heap m) (N : News h₀ L s.heap news) (ht : (t, tupO xs n) ∈ news) (hx : xs.length ≤ 2)
    (h : ∀ D h', Fr h₀ L h' m → News h₀ L h' ((D, tupO xs.reverse 0) :: news) → (∀ p ∈ news, p.1 < D) → Q (.ref D) { s with heap := h' })
    (hs : subscripted slice false (.ref t) (.ref s.heap.objs.size) = operate ops (getItem (.ref t) (.ref s.heap.objs.size)) := by with_unfolding_all rfl)
    (hg : ∀ r, letTemporaryGo value (.ref t) r = pure () := by intro _; with_unfolding_all rfl) :
    wpAny (model prog w) A (subscriptTail value slice (.ref t) (.ref s.heap.objs.size)) Q E { s with heap := s.heap.push { cls := .type "slice", data := .fields #[.none, .none, .int (-1) u] } } := by
  have ht' : IsTup (s.heap.push { cls := .type "slice", data := .fields #[.none, .none, .int (-1) u] }) t xs.toArray := (News.isTup N ht).keeps fun _ _ e => Heap.get?_push_of_some _ e
  refine subscriptTail_ops (s := { s with heap := s.heap.push { cls := .type "slice", data := .fields #[.none, .none, .int (-1) u] } }) ht'.typeIs slot_tuple_getitem.lookup
    (getItem_tuple_rev ht' (Heap.IsSliceOf.new ..) hx ?_) hs hg
  have N1 := News.push (F.push { cls := .type "slice", data := .fields #[.none, .none, .int (-1) u] }) (N.grown fun _ _ e => Heap.get?_push_of_some _ e) { cls := .type "tuple", data := .seq xs.reverse.toArray }
  rw [Heap.size_push] at N1
  show Q (.ref (s.heap.push _).objs.size) _
  rw [Heap.size_push]
  exact h _ _ ((F.push _).push _) N1 fun p hp => Nat.lt_succ_of_lt (Heap.lt_size (N p hp).1)
end
end Mine
end SL6
/-! L7 -/
section SL7
open PySem.Spec PySem.Calls
namespace Mine
/-! a contract of a def that makes defs of its own: its code's table grows once -/
structure ToldG (D : Type) where
  Rel : List (Addr × Obj) → List (Addr × Obj) → List Value → D → Prop
  Pre : D → List (Addr × Obj)
  size : D → Nat
  Out : D → List (Addr × Obj) → List (Addr × Obj) → List (Addr × Obj) → Value → Prop

noncomputable def TellsG {D : Type} (Hyp : Heap → Prop) (prog : Program) (w : World) (K : Frag) (p : Program) (loose : List Str) (mean : ExcName → Option Value) (mg mb : Str → Option Value) (f : Addr) (c : ToldG D) (d : D) : Prop :=
  ∀ (dp un : Nat) (gd : Option (List Code)) (cn : Str) (cs : Scope) (a : Addr) (ccd : Value) (cl : List (Str × Addr)) (outer : List Env) (A₀ : Around) (base h₀ : Heap) (L : Addr) (m : Str → Option Value) (ext news : List (Addr × Obj)) (s : Shared) (vs : List Value)
    (Q E : Value → Shared → Prop),
    Below A₀ base outer h₀ → Hyp base → Fr h₀ L s.heap m → K.In h₀ → News h₀ L s.heap (c.Pre d ++ (ext ++ news)) → (∀ q ∈ c.Pre d, ∀ p ∈ ext ++ news, p.1 ≠ q.1) → Top p loose mean mg mb h₀ → cs.kind = .function → c.Rel (ext ++ news) news vs d → dp + c.size d < recursionLimit → un + 8 * c.size d < cLine →
    (∀ r l' tl h' tk', l'.map (·.1) = (c.Pre d).map (·.1) → Fr h₀ L h' m → News h₀ L h' (l' ++ (ext ++ (news ++ tl))) → (∀ q ∈ c.Pre d ++ (ext ++ news), ∀ p ∈ tl, q.1 < p.1) → c.Out d l' (ext ++ (news ++ tl)) (news ++ tl) r → Q r { s with heap := h', toks := tk' }) →
    wpAny (model prog w) (ktrTop dp un gd cn cs L a ccd cl outer) (call (.ref f) vs) Q E s
section
variable {D : Type} {Hyp : Heap → Prop} {prog : Program} {w : World} {K : Frag} {p : Program} {loose : List Str} {mean : ExcName → Option Value} {mg mb : Str → Option Value} {f : Addr} {c : ToldG D}
theorem tellsG_use {d : D} {dp un : Nat} {gd : Option (List Code)} {cn : Str} {cs : Scope} {a : Addr} {ccd : Value} {cl : List (Str × Addr)} {outer : List Env} {A₀ : Around} {base h₀ : Heap} {L : Addr} {m : Str → Option Value} {all : List (Addr × Obj)} {s : Shared} {vs : List Value}
    {Q E : Value → Shared → Prop} (rest core : List (Addr × Obj)) (B : Below A₀ base outer h₀) (F : Fr h₀ L s.heap m) (X : K.In h₀) (N : News h₀ L s.heap all) (T : Top p loose mean mg mb h₀) (hk : cs.kind = .function) (C : TellsG Hyp prog w K p loose mean mg mb f c d) (H : Hyp base)
    (hP : ∀ p ∈ c.Pre d, p ∈ all) (hr : ∀ p ∈ rest, p ∈ all) (hs : ∀ p ∈ core, p ∈ rest) (off : ∀ q ∈ c.Pre d, ∀ p ∈ rest, p.1 ≠ q.1) (R : c.Rel (rest ++ core) core vs d)
    (hd : dp + c.size d < recursionLimit) (hu : un + 8 * c.size d < cLine)
    (ret : ∀ r l' tl h' tk', l'.map (·.1) = (c.Pre d).map (·.1) → Fr h₀ L h' m → News h₀ L h' (l' ++ (rest ++ (core ++ tl))) → (∀ q ∈ c.Pre d ++ rest, ∀ p ∈ tl, q.1 < p.1) → c.Out d l' (rest ++ (core ++ tl)) (core ++ tl) r → Q r { s with heap := h', toks := tk' }) :
    wpAny (model prog w) (ktrTop dp un gd cn cs L a ccd cl outer) (call (.ref f) vs) Q E s :=
  C _ _ _ _ _ _ _ _ _ _ _ _ _ _ rest core _ _ _ _ B H F X (fun p hp => N p ((List.mem_append.mp hp).elim (hP p) fun h => (List.mem_append.mp h).elim (hr p) fun h => hr p (hs p h))) (fun q hq p hp => off q hq p ((List.mem_append.mp hp).elim id (hs p))) T hk R hd hu fun r l' tl h' tk' hp' F' N' o out =>
    ret r l' tl h' tk' hp' F' N' (fun q hq => o q ((List.mem_append.mp hq).elim (fun h => memL h) fun h => memR (memL h))) out
end
/-- the head of a ledger, by name -/
theorem pull1 {h₀ h : Heap} {L : Addr} {q : Addr × Obj} {l : List (Addr × Obj)} {G : Prop} (N : News h₀ L h (q :: l)) (k : ∀ q', q' = q → News h₀ L h (q' :: l) → G) : G := k q rfl N
/-- a def's table: empty, or one def's code at a place -/
noncomputable def tabOf (l c : Nat) : Option Addr → Obj
  | none => tabObj #[]
  | some a => tabObj #[rawInt l, rawInt c, .ref a]
/-- the code that a table tells stands there -/
noncomputable def TabOk (qual : Str) (all : List (Addr × Obj)) : Option Addr → Prop
  | none => True
  | some a => ∃ oc vs t, (a, oc) ∈ all ∧ oc.data = .fields vs ∧ vs[1]? = some (.str qual t)
theorem TabOk.mono {qual : Str} {l l' : List (Addr × Obj)} {st : Option Addr} (h : TabOk qual l st) (hs : ∀ p ∈ l, p ∈ l') : TabOk qual l' st := by
  cases st with
  | none => trivial
  | some a => obtain ⟨oc, vs, t, hm, r⟩ := h; exact ⟨oc, vs, t, hs _ hm, r⟩
end Mine
end SL7
/-! P9 -/
section SP9
open PySem.Spec PySem.Calls
namespace Mine
noncomputable def boxes : Nat → Ty
  | 0 => .bool
  | n + 1 => .box (boxes n)
noncomputable abbrev levelsT : ToldX Nat where
  Rel := fun _ _ vs d => ∃ tk, vs = [Value.int (d : Int) tk]
  size := fun _ => 1
  Out := fun news r d => TyIn news r (boxes (d - 1))
theorem foldl_box' : ∀ (l : List Int) (n : Nat), l.foldl (fun t _ => Ty.box t) (boxes n) = boxes (n + l.length)
  | [], n => rfl
  | _ :: r, n => by
    have := foldl_box' r (n + 1)
    simp only [List.foldl_cons, List.length_cons]
    rw [show n + (r.length + 1) = n + 1 + r.length by omega]
    exact this
theorem foldl_box {a : Int} {n : Nat} : (rangeKs a n).foldl (fun t _ => Ty.box t) .bool = boxes n := by
  have := foldl_box' (rangeKs a n) 0
  rw [rangeKs_length, Nat.zero_add] at this
  exact this
theorem levOff {own A tl : List (Addr × Obj)} {q : Addr × Obj} (h : TbOff own (A ++ tl)) (l : ∀ p ∈ A ++ (tl ++ own), p.1 < q.1) : TbOff own (A ++ (tl ++ [q])) := by
  intro p hp r hr
  rw [← List.append_assoc] at hr
  rcases List.mem_append.mp hr with hr | hr
  · exact h p hp r hr
  · rw [List.mem_singleton.mp hr]
    exact Nat.ne_of_lt (l p (memR (memR hp)))
theorem levOwn {own A tl : List (Addr × Obj)} {q : Addr × Obj} (h : OwnOff tl (A.map (·.1))) (l : ∀ p ∈ A ++ (tl ++ own), p.1 < q.1) : OwnOff (tl ++ [q]) (A.map (·.1)) := by
  intro p hp b hb
  rcases List.mem_append.mp hp with hp | hp
  · exact h p hp b hb
  · rw [List.mem_singleton.mp hp]
    obtain ⟨r, hr, rfl⟩ := List.mem_map.mp hb
    exact Nat.ne_of_gt (l r (memL hr))
theorem levOrd {ext news own tl : List (Addr × Obj)} {q q0 : Addr × Obj} (l : ∀ p ∈ (q0 :: (ext ++ news)) ++ (tl ++ own), p.1 < q.1) : ∀ a ∈ ext ++ news, ∀ p ∈ [q], a.1 < p.1 := by
  intro a ha p hp
  rw [List.mem_singleton.mp hp]
  exact l a (memL (.tail _ ha))
inductive LevRel (D : Addr) (tk : Tok) (ext news : List (Addr × Obj)) (l : List (Addr × Obj)) (v : Value) (t : Ty) : Prop
  | mk (tl : List (Addr × Obj)) : l = ((D, tupO [.str (Str.ofString "bool") tk] 0) :: (ext ++ news)) ++ tl → (∀ q ∈ ext ++ news, ∀ p ∈ tl, q.1 < p.1) → TyIn ((D, tupO [.str (Str.ofString "bool") tk] 0) :: (news ++ tl)) v t → LevRel D tk ext news l v t
set_option hygiene false in
local macro_rules | `(tactic| walk_at "execs cons") => `(tactic| (k_here; (try k_gentoks); (try k_fold); (with_reducible refine execsN (s := s) ?_)))
local macro_rules | `(tactic| walk_at "m:mem") => `(tactic| first | assumption | exact List.Mem.head _ | (with_reducible refine memTail ?_; walk_at "m:mem") | (with_reducible refine memR ?_; walk_at "m:mem") | (with_reducible refine memL ?_; walk_at "m:mem"))
local macro_rules | `(tactic| k_mem) => `(tactic| walk_at "m:mem")
local macro_rules | `(tactic| walk_at "m:el") => `(tactic| with_reducible first | exact memHead | (refine memTail ?_; walk_at "m:el") | (refine memR ?_; walk_at "m:el") | (refine memL ?_; walk_at "m:el"))
local macro_rules | `(tactic| walk_at "m:in") => `(tactic| with_reducible first | assumption | exact subRefl | exact subNil | (refine subCons ?_ ?_; (walk_at "m:el"); (walk_at "m:in")) | (refine subApp ?_ ?_; (walk_at "m:in"); (walk_at "m:in")) | (refine subTail ?_; walk_at "m:in") | (refine subR ?_; walk_at "m:in") | (refine subL ?_; walk_at "m:in"))
local macro_rules | `(tactic| walk_at "pyIter ref") => `(tactic| (k_here; refine Halt.go ?_))
set_option maxHeartbeats 1500000 in
theorem levels_gen (w : World) (p : Program) (loose : List Str) (mean : ExcName → Option Value) (mg mb : Str → Option Value) (nL : Nat) (hsmL : Builtin.Range.small 0 (((nL + 1 : Nat) : Int) - 1) 1 = true) (hnL : Builtin.Range.rangeSize 0 (((nL + 1 : Nat) : Int) - 1) 1 = (nL : Int)) :
    TellsX PySem.Challenge.rw_xw0159_01.row.prog w (hd.heap_1 w.params) p loose mean mg mb 201 levelsT (nL + 1) := by
  k_fill
  unfold TellsX
  intro dp un gd cn cs a ccd cl outer A₀ base h₀ L m ext news s vs Q E B F X N T hk hR hdp hun hret
  obtain ⟨tk, rfl⟩ := hR
  dsimp only [levelsT] at hdp hun hret
  have hc := cLine_is
  refine wpAny_call ?_
  k_dflt ktr_enter
  (try (((show let Mo0 := model _ _; let en0 : Env := _; let Ar0 := Around.deeper _ en0; wpAny Mo0 Ar0 (execs _ en0) _ _ _); intro Mo0 en0 Ar0; skip)))
  k_steps
  refine Halt.mk ?_
  rename IsRange _ _ _ _ _ _ _ _ => rgX
  rename_i tkB DB _ lB hB _ _ h00 _ _ _ _ FR NR keepR
  refine' tbr_tree1 (y := Str.ofString "T") (δ := Ty) (Rel := LevRel DB tkB ext news) (d₀ := .bool) (n := nL) [] (fun t _ => .box t) ?hh rgX ?hsm ?hn FR NR ?hy ?hr0 ?turn ?done
  case hh => rfl
  case hsm => exact hsmL
  case hn => exact hnL
  case hy => rfl
  case hr0 => exact ⟨[], (List.append_nil _).symm, (fun _ _ _ h => nomatch h), .bool (.head _)⟩
  case turn =>
    intro k t v σ u tl h tkH own hk1 hk2 hoff hto hto2 hR F4 N4
    obtain ⟨tl0, htl, hord, hT⟩ := hR
    obtain rfl := List.append_cancel_left htl
    (try k_fold)
    k_steps
    rename_i DT _ _ _ lT hT2 FT NT
    refine ⟨hT2, tk, _, _, ((DB, tupO [.str (Str.ofString "bool") tkB] 0) :: (ext ++ news)) ++ (tl ++ [(DT, tupO [.str (Str.ofString "box") tkH, v] 0)]), rfl, FT, NT, ?_, ?_, levOff hoff lT, ⟨_, rfl, levOwn hto lT, ⟨_, rfl, ⟨_, rfl, ?_, ?_⟩⟩, ?_⟩⟩
    · walk_at "m:in"
    · walk_at "m:in"
    · exact ordA hord (levOrd lT)
    · exact .box (.tail _ (memR (memR (.head _)))) (hT.mono (by walk_at "m:in"))
    · intro z h1 h2 h3
      simp [h1, h2]
  case done =>
    intro u v tl h tk ht hR F4 N4
    obtain ⟨tl0, htl, hord, hT⟩ := hR
    obtain rfl := List.append_cancel_left htl
    (try k_fold)
    k_steps
    exact hret _ ((DB, tupO [.str (Str.ofString "bool") tkB] 0) :: tl) _ _ (by k_asm) (nsub (by k_asm) (by walk_at "m:in")) (ordA (t1 := [(DB, tupO [.str (Str.ofString "bool") tkB] 0)]) (od1 lB) hord) (by rw [foldl_box] at hT; exact hT.mono (by walk_at "m:in"))
theorem levels_tells (w : World) (p : Program) (loose : List Str) (mean : ExcName → Option Value) (mg mb : Str → Option Value) :
    TellsX PySem.Challenge.rw_xw0159_01.row.prog w (hd.heap_1 w.params) p loose mean mg mb 201 levelsT 200 := levels_gen w p loose mean mg mb 199 (by decide) (by decide)
theorem levels_tells190 (w : World) (p : Program) (loose : List Str) (mean : ExcName → Option Value) (mg mb : Str → Option Value) :
    TellsX PySem.Challenge.rw_xw0159_01.row.prog w (hd.heap_1 w.params) p loose mean mg mb 201 levelsT 190 := levels_gen w p loose mean mg mb 189 (by decide) (by decide)
end Mine
end SP9
/-! L8 -/
section SL8
open PySem.Spec PySem.Calls
namespace Mine
theorem Turned.len {σ : Type} {nx : σ → Value → σ} {len : σ → Nat} (hl : ∀ c v, len (nx c v) ≤ len c + 1) {c c' : σ} {xs : List Str} (h : Turned nx c xs c') : len c' ≤ len c + xs.length := by
  obtain ⟨ws, hw, rfl⟩ := h
  induction hw generalizing c with
  | nil => simp
  | @cons x t vs xs _ ih =>
    have h1 := hl c (.str x t)
    have h2 := @ih (nx c (.str x t))
    simp only [List.foldl_cons, List.length_cons]
    omega
theorem roomTop {σ : Type} {nx : σ → Value → σ} {len : σ → Nat} {lim : Nat} (hl : ∀ c v, len (nx c v) ≤ len c + 1) {c c' : σ} {t : Ty} (h : Turned nx c t.topRegs c') (hb : len c + t.regs.length ≤ lim) : len c' + (t.parts.flatMap Ty.regs).length ≤ lim := by
  have q := h.len hl
  have q2 := congrArg List.length (Ty.regs_split t)
  simp only [List.length_append] at q2
  omega
theorem roomNext {σ : Type} {nx : σ → Value → σ} {len : σ → Nat} {lim : Nat} (hl : ∀ c v, len (nx c v) ≤ len c + 1) {c c' : σ} {t : Ty} {r : List Ty} (hj : len c + ((t :: r).flatMap Ty.regs).length ≤ lim) (h : Turned nx c t.regs c') : len c' + (r.flatMap Ty.regs).length ≤ lim := by
  have q := h.len hl
  simp only [List.flatMap_cons, List.length_append] at hj
  omega
theorem roomHere {σ : Type} {len : σ → Nat} {lim : Nat} {c : σ} {t : Ty} (h : ∃ r, len c + ((t :: r).flatMap Ty.regs).length ≤ lim) : len c + t.regs.length ≤ lim := by
  obtain ⟨r, hj⟩ := h
  simp only [List.flatMap_cons, List.length_append] at hj
  omega
section
variable {prog : Program} {w : World} {A : Around} {s : Shared} {h₀ : Heap} {L : Addr} {m : Str → Option Value} {env : Env}
/-- compRest_map, where the state is known to leave room for the parts that are left -/
theorem compRest_mapJ {σ : Type} (Led : σ → List (Addr × Obj)) (Nx : σ → Ty → σ → Prop) (G : Ty → Ty) {elt : Expr} {x : Str} {scope : Scope} {cl : List (Str × Addr)} {S : List (Addr × Obj) → Prop} {Fin : List Value → List (Addr × Obj) → Prop} {all0 core0 : List (Addr × Obj)} {vs0 : List Value} {ts0 : List Ty} {c0 : σ} (J : σ → List Ty → Prop) (hJ0 : J c0 ts0) (hJ : ∀ c t r c', J c (t :: r) → Nx c t c' → J c' r)
    (hLed : ∀ c c', (Led c).map (·.1) = (Led c').map (·.1)) (hA : TyAll core0 vs0 ts0)
    (step : ∀ c v t tl ys I oI C oC D m₂ h tk (E' : Value → Shared → Prop), (∃ r, J c (t :: r)) → t ∈ ts0 → TyIn core0 v t → (∀ q ∈ Led c ++ all0, ∀ p ∈ tl, q.1 < p.1) → LCg.NsObj oC m₂ → m₂ x = some v → Fr h₀ L h m → News h₀ L h ((I, oI) :: (C, oC) :: (D, LCg.lst ys) :: (Led c ++ (all0 ++ tl))) →
      LCg.Off3 I C D (Led c ++ (all0 ++ tl)) → ((@Ne Nat I C) ∧ (@Ne Nat I D) ∧ (@Ne Nat C D)) →
      wpAny (model prog w) A (eval elt (compEnvC scope cl C env)) (EltEnd h₀ L m { s with heap := h, toks := tk } [(I, oI), (C, oC), (D, LCg.lst ys)] (fun l => ∃ c', Nx c t c' ∧ l = Led c') (all0 ++ tl) (core0 ++ tl) (G t)) E' { s with heap := h, toks := tk })
    (hS : ∀ c tl, S (Led c ++ (all0 ++ tl)))
    (fin : ∀ c ys tl, Chain Nx c0 ts0 c → (∀ q ∈ Led c0 ++ all0, ∀ p ∈ tl, q.1 < p.1) → TyAll (core0 ++ tl) ys (ts0.map G) → Fin ys (Led c ++ (all0 ++ tl))) :
    LCg.CompRest prog w A h₀ L m env elt x scope cl s S (fun i v => vs0.toArray[i]? = some v) Fin vs0.toArray.size 0 [] (Led c0 ++ all0) := by
  have main : ∀ (vsr : List Value) (tsr : List Ty) (vsd : List Value) (tsd : List Ty) (ys : List Value) (c : σ) (tl : List (Addr × Obj)), vs0 = vsd ++ vsr → ts0 = tsd ++ tsr → J c tsr → TyAll core0 vsr tsr → (∀ c', Chain Nx c tsr c' → Chain Nx c0 ts0 c') →
      (∀ q ∈ Led c0 ++ all0, ∀ p ∈ tl, q.1 < p.1) → TyAll (core0 ++ tl) ys (tsd.map G) →
      LCg.CompRest prog w A h₀ L m env elt x scope cl s S (fun i v => vs0.toArray[i]? = some v) Fin vsr.length vsd.length ys (Led c ++ (all0 ++ tl)) := by
    intro vsr
    induction vsr with
    | nil =>
      intro tsr vsd tsd ys c tl hv ht hj hA hc ho hy
      cases hA
      refine LCg.CompRest.zero ?_
      rw [List.append_nil] at ht
      subst ht
      exact fin c ys tl (hc c .nil) ho hy
    | cons v vsr ih =>
      intro tsr vsd tsd ys c tl hv ht hj hA hc ho hy
      cases hA
      rename_i t tsr hI hA
      refine LCg.CompRest.succ ?_
      intro v' I oI C oC D m₂ h tk E' hP hNs hx F N off ne
      have e : v' = v := by
        subst hv
        simp at hP
        exact hP.symm
      subst e
      have ho' : ∀ q ∈ Led c ++ all0, ∀ p ∈ tl, q.1 < p.1 := ord_addr (by simp [hLed c c0]) ho
      refine wpAny_mono (step c v' t tl ys I oI C oC D m₂ h tk E' ⟨_, hj⟩ (by rw [ht]; simp) hI ho' hNs hx F N off ne) (fun y s₂ hE => ?_) fun _ _ e => e
      obtain ⟨h', tk', tl', l', ⟨c1, hc1, rfl⟩, rfl, F', N', o', hT⟩ := hE
      have off' : LCg.Off3 I C D (Led c1 ++ (all0 ++ (tl ++ tl'))) := LCg.Off3.of fun p hp => by
        have off1 : LCg.Off3 I C D (Led c1 ++ (all0 ++ tl)) := off3_addr (by simp [hLed c1 c]) off
        rw [← List.append_assoc, ← List.append_assoc] at hp
        rcases List.mem_append.mp hp with hp | hp
        · exact off1.mem p (by simpa [List.append_assoc] using hp)
        · exact ⟨Nat.ne_of_gt (o' (I, oI) (by simp) p hp), Nat.ne_of_gt (o' (C, oC) (by simp) p hp), Nat.ne_of_gt (o' (D, LCg.lst ys) (by simp) p hp)⟩
      refine compEnd_mk F' (by simpa [List.append_assoc] using N') off' (hS _ _) ?_
      have := ih tsr (vsd ++ [v']) (tsd ++ [t]) (ys ++ [y]) c1 (tl ++ tl') (by simp [hv]) (by simp [ht]) (hJ _ _ _ _ hj hc1) hA (fun c' hch => hc c' (.cons hc1 hch))
        (ordA ho (ordS (ord_addr (l := Led c1 ++ all0) (l' := Led c0 ++ all0) (by simp [hLed c0 c1]) (ordS o' (fun p hp => by
          rcases List.mem_append.mp hp with hp | hp
          · exact memR (memL hp)
          · exact memR (memR (memL hp))))) (fun p hp => hp)))
        (by
          rw [List.map_append]
          have h1 : TyAll (core0 ++ (tl ++ tl')) ys (tsd.map G) := hy.mono (fun p hp => by rw [← List.append_assoc]; exact memL hp)
          have h2 : TyIn (core0 ++ (tl ++ tl')) y (G t) := by rw [← List.append_assoc]; exact hT
          exact h1.snoc h2)
      rw [List.length_append] at this
      exact this
  have := main vs0 ts0 [] [] [] c0 [] rfl rfl hJ0 hA (fun _ h => h) (fun _ _ _ h => nomatch h) .nil
  simpa using this
end
end Mine
end SL8
/-! P3 -/
section SP3
open PySem.Spec PySem.Calls
namespace Mine
/-- the def that is handed to with_regions: it turns P, and gives a region for a region -/
noncomputable abbrev chgT {σ : Type} (P : σ → List (Addr × Obj)) (nx : σ → Value → σ) (g : Str → Str) (Clo : List (Addr × Obj) → Prop) (len : σ → Nat) (lim : Nat) : ToldM (σ × Str × Tok) where
  Rel := fun all _ vs d => vs = [.str d.2.1 d.2.2] ∧ Clo all ∧ len d.1 < lim
  Pre := fun d => P d.1
  Post := fun d l => l = P (nx d.1 (.str d.2.1 d.2.2))
  size := fun _ => 1
  Out := fun _ v d => ∃ tk, v = .str (g d.2.1) tk
inductive WrIn {σ : Type} (f : Addr) (Clo : List (Addr × Obj) → Prop) (len : σ → Nat) (lim : Nat) (all news : List (Addr × Obj)) : List Value → Ty × σ → Prop
  | mk {v : Value} {t : Ty} {xs : σ} {oc : Value} {od : Option Addr} {fd : FuncData} {sl : Array (Option Value)} : TyIn news v t → (f, (⟨oc, od, .func fd, sl⟩ : Obj)) ∈ all → Clo all → len xs + t.regs.length ≤ lim → WrIn f Clo len lim all news [v, .ref f] (t, xs)
noncomputable abbrev wrT {σ : Type} (P : σ → List (Addr × Obj)) (nx : σ → Value → σ) (g : Str → Str) (Clo : List (Addr × Obj) → Prop) (len : σ → Nat) (lim : Nat) (f : Addr) : ToldM (Ty × σ) where
  Rel := WrIn f Clo len lim
  Pre := fun d => P d.2
  Post := fun d l => ∃ c, Turned nx d.2 d.1.regs c ∧ l = P c
  size := fun d => d.1.depth + 1
  Out := fun news r d => TyIn news r (d.1.mapR g)
set_option hygiene false in
local macro_rules | `(tactic| walk_at "execs cons") => `(tactic| (k_here; (try k_gentoks); (try k_fold); (with_reducible refine execsN (s := s) ?_)))
local macro_rules | `(tactic| k_mem) => `(tactic| first | assumption | exact List.Mem.head _ | (refine memTail ?_; k_mem) | (refine memR ?_; k_mem) | (refine memL ?_; k_mem))
local macro_rules | `(tactic| walk_at "eval ListComp") => `(tactic| (k_here; k_dflt (refine ListComp_Tup (F₀ := by k_asm) (by with_unfolding_all rfl) (by decide) (by rfl) (by decide) (by rfl) ?_)))
local macro_rules | `(tactic| walk_at "subscriptTail") => `(tactic| (k_here; (with_reducible show wpAny _ _ (subscriptTail _ _ (Value.ref _) (Value.int 0 _)) _ _ _); k_dflt (refine item0 (by k_asm) (by k_mem) ?_)))
local macro_rules | `(tactic| walk_at "callWith ref") => `(tactic| (k_here; k_dflt (refine' callWith_F ?k1 ?_; (case k1 => exact FnAt.of (by k_asm) (by k_mem)); k_whole)))
local macro_rules | `(tactic| walk_at "call ref") => `(tactic| (k_here; (with_reducible show wpAny _ _ (call (Value.ref _) _) _ _ _); refine Halt.go ?_))
local macro_rules | `(tactic| walk_at "m:el") => `(tactic| with_reducible first | exact memHead | (refine memTail ?_; walk_at "m:el") | (refine memR ?_; walk_at "m:el") | (refine memL ?_; walk_at "m:el"))
local macro_rules | `(tactic| walk_at "m:in") => `(tactic| with_reducible first | assumption | exact subRefl | exact subNil | (refine subCons ?_ ?_; (walk_at "m:el"); (walk_at "m:in")) | (refine subApp ?_ ?_; (walk_at "m:in"); (walk_at "m:in")) | (refine subTail ?_; walk_at "m:in") | (refine subR ?_; walk_at "m:in") | (refine subL ?_; walk_at "m:in"))

theorem top_self {t : Ty} {g : Str → Str} (h : ¬ ∃ r u, t = .rf r u) (h2 : ¬ ∃ r u, t = .adtR r u) : t.top g = t := by cases t <;> first | rfl | exact absurd ⟨_, _, rfl⟩ h | exact absurd ⟨_, _, rfl⟩ h2
theorem turned_none {σ : Type} {nx : σ → Value → σ} {xs : σ} {t : Ty} (h : ¬ ∃ r u, t = .rf r u) (h2 : ¬ ∃ r u, t = .adtR r u) : Turned nx xs t.topRegs xs := by
  cases t <;> first | exact Turned.nil | exact absurd ⟨_, _, rfl⟩ h | exact absurd ⟨_, _, rfl⟩ h2
theorem upd1 {m : Str → Option Value} {a : Str} {x : Value} (ha : m a = some x) : m = fun k => if k = a then some x else m k := by
  funext k
  split
  · rename_i h; rw [h]; exact ha
  · rfl
/-- behind the first statement of with_regions -/
inductive WrJ {σ : Type} (P : σ → List (Addr × Obj)) (nx : σ → Value → σ) (g : Str → Str) (h₀ : Heap) (L : Addr) (s : Shared) (xs : σ) (t : Ty) (oc1 : Obj) (ext news : List (Addr × Obj)) : Shared → Prop
  | mk (cz : σ) (X : List (Addr × Obj)) (vT : Value) (m4 : Str → Option Value) (h : Heap) (tk : Nat) : Turned nx xs t.topRegs cz → m4 (Str.ofString "told") = some vT → Fr h₀ L h m4 → News h₀ L h (P cz ++ ((L + 1, oc1) :: (ext ++ (news ++ X)))) →
      TyIn (news ++ X) vT (t.top g) → OffP P (ext ++ (news ++ X)) → (∀ q ∈ P xs ++ (ext ++ news), ∀ p ∈ X, q.1 < p.1) → WrJ P nx g h₀ L s xs t oc1 ext news { heap := h, gens := s.gens, drawn := s.drawn, toks := tk, os := s.os }
local macro_rules | `(tactic| walk_at "execs cons") => `(tactic| (k_here; rename StopW => hStopW; refine Halt.go ?_))
set_option maxHeartbeats 8000000 in
theorem with_regions_tells (w : World) (p : Program) (loose : List Str) (mean : ExcName → Option Value) (mg mb : Str → Option Value)
    {σ : Type} (P : σ → List (Addr × Obj)) (nx : σ → Value → σ) (g : Str → Str) (Clo : List (Addr × Obj) → Prop) (len : σ → Nat) (lim : Nat) (hlen : ∀ c v, len (nx c v) ≤ len c + 1) (f : Addr) (hPa : ∀ xs ys, (P xs).map (·.1) = (P ys).map (·.1)) (hClo : ∀ l l', (∀ p ∈ l, p ∈ l') → Clo l → Clo l')
    (chg : ∀ d, TellsM PySem.Challenge.rw_xw0159_01.row.prog w (hd.heap_1 w.params) p loose mean mg mb f (chgT P nx g Clo len lim) d) (d₀ : Ty × σ) :
    TellsM PySem.Challenge.rw_xw0159_01.row.prog w (hd.heap_1 w.params) p loose mean mg mb 78 (wrT P nx g Clo len lim f) d₀ := by
  k_fill
  refine tellsM_of (fun d IH => ?_) d₀
  clear d₀
  unfold TellsM
  intro dp un gd cn cs a ccd cl outer A₀ base h₀ L m ext news s vs Q E B F X N hoff T hk hR hdp hun hret
  cases hR
  rename_i v t xs oc od fd sl hR hf hclo hb
  have hc := cLine_is
  have htp := Ty.depth_pos t
  dsimp only [wrT] at hdp hun N hoff hret
  obtain ⟨a1, tk1, rest1, n1, rfl, hm1⟩ := hR.head
  refine wpAny_call ?_
  (refine' code_defC ?k1 ?k2 ?k3 ?k4 ?k5 ?kA ?kF ?kK ?k6 ?k7 ?k8 ?k9 ?kB ?kD ?_ ?c2 ?c3 ?c4; (case kA => exact rfl); (case kF => exact rfl); (case kK => assumption); (case k1 => k_asm); (case k2 => k_asm); (case k3 => k_asm); (case k4 => k_asm); (case k5 => k_asm); (case k6 => k_is); (case k7 => k_is); (case k8 => ktr_room); (case k9 => exact BindsTo.of_eq rfl); (case kB => exact rfl); (case kD => decide +kernel); (case c2 => exact rfl); (case c3 => exact rfl); (case c4 => exact rfl); k_whole; intro g' L' h' tk' cells' FG' F' N' Y' B' X' T' l1; (try k_lt l1); k_cells Y'; (try simp only [List.cons_append, List.nil_append] at N'); (try dsimp only); (try k_lift B'); (try k_fold))
  (try (((show let Mo0 := model _ _; let en0 : Env := _; let Ar0 := Around.deeper _ en0; wpAny Mo0 Ar0 (execs _ en0) _ _ _); intro Mo0 en0 Ar0; skip)))
  rename Obj => oc1
  have hoc : OffP P [(L' + 1, oc1)] := OffP.lt hPa (xs := xs) (fun q hq => Nat.lt_succ_of_lt (l1 q (memL hq)))
  have hStop : StopW := trivial
  k_steps
  refine Halt.mk ?_
  (rename StopW => hS; clear hS)
  refine split_tail (WrJ P nx g g' L' s xs t oc1 ext news) ?_ ?_
  · (try k_fold)
    by_cases hrf : ∃ r t', t = .rf r t'
    · obtain ⟨r, t', ht⟩ := hrf
      have hR0 := hR
      rw [ht] at hR
      clear hm1
      refine TyIn.rfE hR fun v1 k1 k1' n1 hm1 hv1 => ?_
      k_steps
      rename Nat => tkA
      refine Halt.mk ?_
      obtain ⟨cz, hcz⟩ : ∃ cz, cz = nx xs (.str r k1') := ⟨_, rfl⟩
      have hw1 : Turned nx xs t.topRegs cz := ⟨[.str r k1'], by rw [ht]; exact .cons .nil, hcz⟩
      k_dflt (refine' tellsM_use (c := chgT P nx g Clo len lim) (d := (xs, r, k1')) ((L' + 1, oc1) :: (ext ++ news)) [] ?k1 ?k2 ?k3 ?k4 ?k5 ?kK (chg (xs, r, k1')) ?hP ?hr ?hs ?ho ?kR ?kd ?ku ?_)
      (((case k1 => k_asm); (case k2 => k_asm); (case k3 => k_asm); (case k4 => k_asm); (case k5 => k_asm); (case kK => first | exact rfl | assumption)))
      case hP => walk_at "m:in"
      case hr => walk_at "m:in"
      case hs => exact fun _ h => nomatch h
      case ho => exact (OffP.cons hoc (OffP.of hPa hoff)) _
      case kd => exact bud hdp (Nat.succ_le_succ htp)
      case ku => exact budU hun htp (Nat.le_of_ble_eq_true rfl)
      case kR => exact ⟨rfl, hClo _ _ (by walk_at "m:in") hclo, (by rw [ht] at hb; simp only [Ty.regs, List.length_cons] at hb; (try dsimp only); omega)⟩
      intro r2 l2 tl2 h2 tk2 hp2 F2 N2 hl2 ho2
      obtain rfl : l2 = P cz := by rw [hcz]; exact hp2
      obtain ⟨tk3, rfl⟩ := ho2
      dsimp only [chgT] at N2 hl2
      simp only [List.cons_append, List.append_assoc] at N2
      k_steps
      rename_i D4 h41 l4 h42 F4 N4
      obtain ⟨q4, hq4⟩ : ∃ q : Addr × Obj, q = (D4, tupO [Value.str (Str.ofString "ref") tkA, Value.str (g r) tk3, Value.bool false, v1] 0) := ⟨_, rfl⟩
      rw [← hq4] at N4
      have hT1 : TyIn (news ++ (q4 :: tl2)) (.ref D4) (t.top g) := by
        rw [ht, hq4]
        exact .rf (memR (.head _)) (hv1.mono (by walk_at "m:in"))
      have l4' : ∀ q ∈ P (cz) ++ (ext ++ news), ∀ p ∈ [q4], q.1 < p.1 := by
        rw [hq4]
        exact od1 (q1 := (D4, _)) (fun q hq => l4 q (memOf (by walk_at "m:in") hq))
      have l5 := ordP hPa (ys := xs) l4'
      have oA : OffP P (ext ++ (news ++ (q4 :: tl2))) := (((OffP.of hPa hoff).app ((OffP.ord hPa l5).app (OffP.ord hPa hl2)))).sub (by walk_at "m:in")
      have orA : ∀ q ∈ P xs ++ (ext ++ news), ∀ p ∈ q4 :: tl2, q.1 < p.1 := ordA (t1 := [q4]) l5 (ordS hl2 (by walk_at "m:in"))
      (try dsimp only)
      repeat' (k_unfold; (try dsimp only))
      exact WrJ.mk cz (q4 :: tl2) (.ref D4) _ _ _ hw1 rfl (by k_asm) (nsub N4 (by walk_at "m:in")) hT1 oA orA
    · by_cases hadt : ∃ r t', t = .adtR r t'
      · obtain ⟨r, t', ht⟩ := hadt
        have hR0 := hR
        rw [ht] at hR
        clear hm1
        refine TyIn.adtRE hR fun b1 c1 v1 k1 k1' k1'' n1 n1' n1'' hm1 hb1 hc1 hv1 => ?_
        k_steps
        rename Nat => tkA
        refine TupSrc.mk (its := [.str r k1'']) (n := n1') rfl F' N' (memTail (memR (memR hb1))) (by show 1 ≤ sizeLine; decide) (fun gh => ?_)
        refine LCg.CompRest.succ ?_
        intro v2 I oI C oC D m2 h2 tk2 E2 hP hNs hx2 F2 N2 off2 ne2
        simp at hP
        subst hP
        (try k_fold)
        k_steps
        refine Halt.mk ?_
        obtain ⟨cz, hcz⟩ : ∃ cz, cz = nx xs (.str r k1'') := ⟨_, rfl⟩
        have hw1 : Turned nx xs t.topRegs cz := ⟨[.str r k1''], by rw [ht]; exact .cons .nil, hcz⟩
        k_dflt (refine' tellsM_use (c := chgT P nx g Clo len lim) (d := (xs, r, k1'')) ((I, oI) :: (C, oC) :: (D, LCg.lst []) :: (L' + 1, oc1) :: (ext ++ news)) [] ?k1 ?k2 ?k3 ?k4 ?k5 ?kK (chg (xs, r, k1'')) ?hP ?hr ?hs ?ho ?kR ?kd ?ku ?_)
        (((case k1 => k_asm); (case k2 => k_asm); (case k3 => k_asm); (case k4 => k_asm); (case k5 => k_asm); (case kK => first | exact rfl | assumption)))
        case hP => walk_at "m:in"
        case hr => walk_at "m:in"
        case hs => exact fun _ h => nomatch h
        case ho => exact (((off3P (l := ext ++ news) (off3T off2) hPa).app (OffP.cons hoc (OffP.of hPa hoff))).sub (by walk_at "m:in")) _
        case kd => exact bud hdp (Nat.succ_le_succ htp)
        case ku => exact budU hun htp (Nat.le_of_ble_eq_true rfl)
        case kR => exact ⟨rfl, hClo _ _ (by walk_at "m:in") hclo, (by rw [ht] at hb; simp only [Ty.regs, List.length_cons] at hb; (try dsimp only); omega)⟩
        intro r3 l2 tl2 h3 tk3 hp2 F3 N3 hl2 ho3
        obtain rfl : l2 = P cz := by rw [hcz]; exact hp2
        obtain ⟨tk4, rfl⟩ := ho3
        dsimp only [chgT] at N3 hl2
        have off4 := off3_app (news := (L' + 1, oc1) :: (P (cz) ++ (ext ++ news))) (tl := tl2) (off3_addr (by simp [hPa (cz) xs]) off2) (ordS (ordP hPa (ys := cz) hl2) (by walk_at "m:in"))
        simp only [List.cons_append, List.append_assoc] at off4
        refine compEnd_mk F3 (nsub N3 (by walk_at "m:in")) off4 (memTail (memR (memR (memL hb1)))) (LCg.CompRest.zero ?_)
        unfold LCg.FinE
        intro D5 h5 tk5 F5 N5 o5
        simp only [List.nil_append] at N5
        k_steps
        rename_i D6 h61 l6 D4 h41 l4 h42 F4 N4
        obtain ⟨q4, hq4⟩ : ∃ q : Addr × Obj, q = (D4, tupO [Value.str (Str.ofString "adt") tkA, Value.str (Str.ofString "R") k1', Value.ref D6, Value.ref c1] 0) := ⟨_, rfl⟩
        obtain ⟨q6, hq6⟩ : ∃ q : Addr × Obj, q = (D6, tupO [Value.str (g r) tk4] 0) := ⟨_, rfl⟩
        rw [← hq4, ← hq6] at N4
        have hT1 : TyIn (news ++ (q4 :: q6 :: tl2)) (.ref D4) (t.top g) := by
          rw [ht, hq4, hq6]
          exact .adtR (memR (.head _)) (memR (.tail _ (.head _))) (memL hc1) (hv1.mono (by walk_at "m:in"))
        have l4' : ∀ q ∈ P (cz) ++ (ext ++ news), ∀ p ∈ [q4], q.1 < p.1 := by
          rw [hq4]
          exact od1 (q1 := (D4, _)) (fun q hq => ktn_ltOf l4.2.2.2 q (memOf (by walk_at "m:in") hq))
        have l6' : ∀ q ∈ P (cz) ++ (ext ++ news), ∀ p ∈ [q6], q.1 < p.1 := by
          rw [hq6]
          exact od1 (q1 := (D6, _)) (fun q hq => ktn_ltOf l6.2.2 q (memOf (by walk_at "m:in") hq))
        have l5 := ordP hPa (ys := xs) l4'
        have l7 := ordP hPa (ys := xs) l6'
        have oA : OffP P (ext ++ (news ++ (q4 :: q6 :: tl2))) := (((OffP.of hPa hoff).app ((OffP.ord hPa l5).app ((OffP.ord hPa l7).app (OffP.ord hPa hl2))))).sub (by walk_at "m:in")
        have orA : ∀ q ∈ P xs ++ (ext ++ news), ∀ p ∈ q4 :: q6 :: tl2, q.1 < p.1 := ordA (t1 := [q4]) l5 (ordA (t1 := [q6]) l7 (ordS hl2 (by walk_at "m:in")))
        (try dsimp only)
        repeat' (k_unfold; (try dsimp only))
        exact WrJ.mk cz (q4 :: q6 :: tl2) (.ref D4) _ _ _ hw1 rfl (by k_asm) (nsub N4 (by walk_at "m:in")) hT1 oA orA
      · by_cases hads : ∃ t', t = .adtS t'
        · obtain ⟨t', ht⟩ := hads
          have hR0 := hR
          rw [ht] at hR
          clear hm1
          refine TyIn.adtSE hR fun b1 c1 v1 k1 k1' n1 n1' n1'' hm1 hb1 hc1 hv1 => ?_
          k_steps
          rename Nat => tkA
          refine TupSrc.mk (its := []) (n := n1') rfl F' N' (memTail (memR (memR hb1))) (by show 0 ≤ sizeLine; decide) (fun gh => ?_)
          refine LCg.CompRest.zero ?_
          unfold LCg.FinE
          intro D5 h5 tk5 F5 N5 o5
          k_steps
          rename_i D6 h61 l6 D4 h41 l4 h42 F4 N4
          obtain ⟨q4, hq4⟩ : ∃ q : Addr × Obj, q = (D4, tupO [Value.str (Str.ofString "adt") tkA, Value.str (Str.ofString "S") k1', Value.ref D6, Value.ref c1] 0) := ⟨_, rfl⟩
          obtain ⟨q6, hq6⟩ : ∃ q : Addr × Obj, q = (D6, tupO [] 0) := ⟨_, rfl⟩
          rw [← hq4, ← hq6] at N4
          have hT1 : TyIn (news ++ (q4 :: q6 :: [])) (.ref D4) (t.top g) := by
            rw [ht, hq4, hq6]
            exact .adtS (memR (.head _)) (memR (.tail _ (.head _))) (memL hc1) (hv1.mono (by walk_at "m:in"))
          have hw1 : Turned nx xs t.topRegs xs := turned_none hrf hadt
          have l5 : ∀ q ∈ P xs ++ (ext ++ news), ∀ p ∈ [q4], q.1 < p.1 := by
            rw [hq4]
            exact od1 (q1 := (D4, _)) (fun q hq => ktn_ltOf l4.2.2.2 q (memOf (by walk_at "m:in") hq))
          have l7 : ∀ q ∈ P xs ++ (ext ++ news), ∀ p ∈ [q6], q.1 < p.1 := by
            rw [hq6]
            exact od1 (q1 := (D6, _)) (fun q hq => ktn_ltOf l6.2.2 q (memOf (by walk_at "m:in") hq))
          have oA : OffP P (ext ++ (news ++ (q4 :: q6 :: []))) := (((OffP.of hPa hoff).app ((OffP.ord hPa l5).app ((OffP.ord hPa l7))))).sub (by walk_at "m:in")
          have orA : ∀ q ∈ P xs ++ (ext ++ news), ∀ p ∈ q4 :: q6 :: [], q.1 < p.1 := ordA (t1 := [q4]) l5 (ordA (t1 := [q6]) l7 ord0)
          (try dsimp only)
          repeat' (k_unfold; (try dsimp only))
          exact WrJ.mk xs (q4 :: q6 :: []) (.ref D4) _ _ _ hw1 rfl (by k_asm) (nsub N4 (by walk_at "m:in")) hT1 oA orA
        · have hk1 := kind_ref hrf
          have hk2 := kind_adt hads hadt
          have htop := top_self (g := g) hrf hadt
          k_steps
          have hT1 : TyIn (news ++ []) (.ref a1) (t.top g) := by rw [htop]; exact hR.mono (by walk_at "m:in")
          have hw1 : Turned nx xs t.topRegs xs := turned_none hrf hadt
          have N4 := N'
          have oA : OffP P (ext ++ (news ++ [])) := ((OffP.of hPa hoff)).sub (by walk_at "m:in")
          have orA : ∀ q ∈ P xs ++ (ext ++ news), ∀ p ∈ ([] : List (Addr × Obj)), q.1 < p.1 := ord0
          (try dsimp only)
          repeat' (k_unfold; (try dsimp only))
          exact WrJ.mk xs ([]) (.ref a1) _ _ _ hw1 rfl (by k_asm) (nsub N' (by walk_at "m:in")) hT1 oA orA
  · intro sJ hJ
    cases hJ
    rename_i cz X vT m4 h4 tk4 hw1 hm4 F4 N4 hT1 oA orA
    rw [upd1 hm4] at F4
    (try k_fold)
    k_steps
    refine Halt.mk ?_
    k_dflt (refine' tellsX_use (c := partsT) (d := t.top g) (news ++ X) ?k1 ?k2 ?k3 ?k4 ?k5 ?kK (parts_of_tells w p loose mean mg mb _) ?hs ?kR ?kd ?ku ?_)
    (((case k1 => k_asm); (case k2 => k_asm); (case k3 => k_asm); (case k4 => k_asm); (case k5 => k_asm); (case kK => first | exact rfl | assumption)))
    case hs => walk_at "m:in"
    case kd => exact bud hdp (Nat.succ_le_succ htp)
    case ku => exact budU hun htp (Nat.le_of_ble_eq_true rfl)
    case kR => exact .mk hT1
    intro r9 tl9 h9 tk9 F9 N9 hl9 ho9
    obtain ⟨a9, n9, vs9, rfl, hm9, hA9⟩ := ho9
    rw [Ty.top_parts] at hA9
    simp only [List.append_assoc] at hm9 hA9
    have hl9' : ∀ q ∈ P xs ++ (ext ++ (news ++ X)), ∀ p ∈ tl9, q.1 < p.1 := ordP hPa (xs := cz) (ordS hl9 (by walk_at "m:in"))
    have oB : OffP P ((L' + 1, oc1) :: (ext ++ (news ++ (X ++ tl9)))) := OffP.cons hoc ((((oA).app (OffP.ord hPa hl9'))).sub (by walk_at "m:in"))
    refine TupSrc.mk (its := vs9) (n := n9) (news := P cz ++ ((L' + 1, oc1) :: (ext ++ (news ++ (X ++ tl9))))) rfl F9 (nsub N9 (by walk_at "m:in")) (memOf (by walk_at "m:in") hm9) (by have h1 := Ty.parts_len t; rw [hA9.len]; exact Nat.le_trans h1 (by decide)) (fun gh => ?_)
    refine compRest_mapJ P (fun c t c' => Turned nx c t.regs c') (Ty.mapR g) (core0 := news ++ (X ++ tl9)) (c0 := cz) (fun c ts => len c + (ts.flatMap Ty.regs).length ≤ lim) (roomTop hlen hw1 hb) (fun c t r c' => roomNext hlen) hPa hA9 ?_ (fun c tl => memOf (by walk_at "m:in") hm9) ?_
    · intro c v t' tl ys I oI C oC D m2 h2 tk2 E2 hJc ht' hI ho hNs hx2 F2 N2 off2 ne2
      have hlt := Ty.parts_depth ht'
      simp only [List.nil_append, List.cons_append, List.append_assoc] at N2
      have oI3 : OffP P [(I, oI), (C, oC), (D, LCg.lst ys)] := off3P off2 hPa
      have oT : OffP P tl := OffP.ord hPa ho
      (try k_fold)
      k_steps
      refine Halt.mk ?_
      k_dflt (refine' tellsM_use (c := wrT P nx g Clo len lim f) (d := (t', c)) ((I, oI) :: (C, oC) :: (D, LCg.lst ys) :: ((L' + 1, oc1) :: (ext ++ (news ++ (X ++ (tl9 ++ tl)))))) (news ++ (X ++ (tl9 ++ tl))) ?k1 ?k2 ?k3 ?k4 ?k5 ?kK (IH (t', c) ?kl) ?hP ?hr ?hs ?ho ?kR ?kd ?ku ?_)
      case kl => (dsimp only [wrT]; omega)
      (((case k1 => k_asm); (case k2 => k_asm); (case k3 => k_asm); (case k4 => k_asm); (case k5 => k_asm); (case kK => first | exact rfl | assumption)))
      case hP => walk_at "m:in"
      case hr => walk_at "m:in"
      case hs => walk_at "m:in"
      case ho => exact ((oI3.app (oB.app oT)).sub (by walk_at "m:in")) _
      case kd => (dsimp only [ktrTop, wrT] at hdp ⊢; omega)
      case ku => (dsimp only [ktrTop, wrT, Around.deeper] at hun ⊢; omega)
      case kR => exact .mk (hI.mono (by walk_at "m:in")) (memOf (by walk_at "m:in") hf) (hClo _ _ (by walk_at "m:in") hclo) (roomHere hJc)
      intro r3 l3' tl3 h3 tk3 hp3 F3 N3 hl3 ho3
      obtain ⟨c3, hc3, rfl⟩ := hp3
      exact EltEnd.mk tl3 (P c3) ⟨c3, hc3, rfl⟩ F3 (nsub N3 (by walk_at "m:in")) (ordS (ordP hPa (ys := c3) hl3) (by walk_at "m:in")) (by simp only [List.append_assoc] at ho3 ⊢; exact ho3)
    · intro c4 ys tl hch ho hY
      unfold LCg.FinE
      intro D4 h4 tk4 F4 N4 o4
      simp only [List.nil_append, List.cons_append, List.append_assoc] at N4 hY
      k_steps
      refine Halt.mk ?_
      k_dflt (refine' tellsX_use (c := rebT) (d := (t.top g, t.parts.map (Ty.mapR g))) (news ++ (X ++ (tl9 ++ tl))) ?k1 ?k2 ?k3 ?k4 ?k5 ?kK (rebuilt_tells w p loose mean mg mb _) ?hs ?kR ?kd ?ku ?_)
      (((case k1 => k_asm); (case k2 => k_asm); (case k3 => k_asm); (case k4 => k_asm); (case k5 => k_asm); (case kK => first | exact rfl | assumption)))
      case hs => walk_at "m:in"
      case kd => exact bud hdp (Nat.succ_le_succ htp)
      case ku => exact budU hun htp (Nat.le_of_ble_eq_true rfl)
      case kR => exact .mk (vs := ys) (hT1.mono (by walk_at "m:in")) (memL (List.Mem.head _)) hY Ty.top_fits
      intro r5 tl5 h5 tk5 F5 N5 hl5 ho5
      simp only [List.cons_append, List.append_assoc] at N5 ho5
      k_steps
      exact hret _ (P c4) (X ++ (tl9 ++ (tl ++ tl5))) _ _ ⟨c4, by rw [Ty.regs_split]; exact hw1.app (Turned.chain hch), rfl⟩ (by k_asm) (nsub (by k_asm) (by walk_at "m:in")) (ordA orA (ordA (ordS hl9' (by walk_at "m:in")) (ordA (ordS (ordP hPa (ys := xs) ho) (by walk_at "m:in")) (ordS (ordP hPa (ys := xs) (xs := c4) (l := ext ++ news) (ordS hl5 (by walk_at "m:in"))) (by walk_at "m:in"))))) (by rw [Ty.top_rebuild] at ho5; exact ho5)
end Mine
end SP3
/-! P6 -/
section SP6
open PySem.Spec PySem.Calls
namespace Mine
theorem Ty.regs_len (t : Ty) : t.regs.length ≤ t.depth := by
  induction t <;> simp [Ty.regs, Ty.depth] <;> omega
theorem offLf {q : Addr × Obj} {lf c' f' L : Addr} {oc oF t80 t80' : Obj} {its : Obj} {l : List (Addr × Obj)} (hq : q.1 = f') (hl : L + 1 < lf ∧ 80 < lf ∧ AllLt lf l) (l1 : ∀ q ∈ (lf, its) :: (L + 1, oF) :: (80, t80) :: l, q.1 < c') (l2 : c' < f') :
    ∀ p ∈ q :: (c', oc) :: (L + 1, oF) :: (80, t80') :: l, p.1 ≠ lf := by
  have h1 : lf < c' := l1 (lf, its) (.head _)
  intro p hp
  rcases List.mem_cons.mp hp with rfl | hp
  · rw [hq]; exact Nat.ne_of_gt (Nat.lt_trans h1 l2)
  · rcases List.mem_cons.mp hp with rfl | hp
    · exact Nat.ne_of_gt h1
    · rcases List.mem_cons.mp hp with rfl | hp
      · exact Nat.ne_of_lt hl.1
      · rcases List.mem_cons.mp hp with rfl | hp
        · exact Nat.ne_of_lt hl.2.1
        · exact Nat.ne_of_lt (ktn_ltOf hl.2.2 p hp)
theorem foldl_snoc' (ws a : List Value) : ws.foldl (fun ws v => ws ++ [v]) a = a ++ ws := by
  induction ws generalizing a with
  | nil => simp
  | cons x r ih => rw [List.foldl_cons, ih]; simp
theorem foldl_snoc (ws : List Value) : ws.foldl (fun ws v => ws ++ [v]) [] = ws := foldl_snoc' ws []
theorem ordRegs {q : Addr × Obj} {lf c' f' L : Addr} {oc oF t t80 t80' : Obj} {its its' : Obj} {l X tl : List (Addr × Obj)} (hq : q.1 = f') (h0 : 80 < L ∧ AllLt L l) (hl : L + 1 < lf ∧ 80 < lf ∧ AllLt lf l) (l1 : ∀ q ∈ (lf, its) :: (L + 1, oF) :: (80, t80) :: l, q.1 < c') (l2 : c' < f')
    (h5 : ∀ a ∈ X, ∀ p ∈ tl, a.1 < p.1) (hX0 : (80, t80') ∈ X) (hX : ∀ p ∈ l, p ∈ X) : ∀ a ∈ [(80, t)] ++ l, ∀ p ∈ (lf, its') :: q :: (c', oc) :: (L + 1, oF) :: tl, a.1 < p.1 := by
  intro a ha p hp
  have h1 : a.1 < lf := by
    rcases List.mem_cons.mp ha with rfl | ha
    · exact hl.2.1
    · exact ktn_ltOf hl.2.2 a ha
  have h2 : lf < c' := l1 (lf, its) (.head _)
  rcases List.mem_cons.mp hp with rfl | hp
  · exact h1
  · rcases List.mem_cons.mp hp with rfl | hp
    · rw [hq]; exact Nat.lt_trans h1 (Nat.lt_trans h2 l2)
    · rcases List.mem_cons.mp hp with rfl | hp
      · exact Nat.lt_trans h1 h2
      · rcases List.mem_cons.mp hp with rfl | hp
        · rcases List.mem_cons.mp ha with rfl | ha
          · exact Nat.lt_succ_of_lt h0.1
          · exact Nat.lt_succ_of_lt (ktn_ltOf h0.2 a ha)
        · rcases List.mem_cons.mp ha with rfl | ha
          · exact h5 _ hX0 p hp
          · exact h5 a (hX a ha) p hp
theorem offLf2 {q : Addr × Obj} {lf f' L : Addr} {oF t80 t80' : Obj} {its : Obj} {l : List (Addr × Obj)} (hq : q.1 = f') (hl : L + 1 < lf ∧ 80 < lf ∧ AllLt lf l) (l1 : ∀ q ∈ (lf, its) :: (L + 1, oF) :: (80, t80) :: l, q.1 < f') :
    ∀ p ∈ q :: (L + 1, oF) :: (80, t80') :: l, p.1 ≠ lf := by
  have h1 : lf < f' := l1 (lf, its) (.head _)
  intro p hp
  rcases List.mem_cons.mp hp with rfl | hp
  · rw [hq]; exact Nat.ne_of_gt h1
  · rcases List.mem_cons.mp hp with rfl | hp
    · exact Nat.ne_of_lt hl.1
    · rcases List.mem_cons.mp hp with rfl | hp
      · exact Nat.ne_of_lt hl.2.1
      · exact Nat.ne_of_lt (ktn_ltOf hl.2.2 p hp)
theorem ordRegs2 {q : Addr × Obj} {lf f' L : Addr} {oF t t80 t80' : Obj} {its its' : Obj} {l X tl : List (Addr × Obj)} (hq : q.1 = f') (h0 : 80 < L ∧ AllLt L l) (hl : L + 1 < lf ∧ 80 < lf ∧ AllLt lf l) (l1 : ∀ q ∈ (lf, its) :: (L + 1, oF) :: (80, t80) :: l, q.1 < f')
    (h5 : ∀ a ∈ X, ∀ p ∈ tl, a.1 < p.1) (hX0 : (80, t80') ∈ X) (hX : ∀ p ∈ l, p ∈ X) : ∀ a ∈ [(80, t)] ++ l, ∀ p ∈ (lf, its') :: q :: (L + 1, oF) :: tl, a.1 < p.1 := by
  intro a ha p hp
  have h1 : a.1 < lf := by
    rcases List.mem_cons.mp ha with rfl | ha
    · exact hl.2.1
    · exact ktn_ltOf hl.2.2 a ha
  have h2 : lf < f' := l1 (lf, its) (.head _)
  rcases List.mem_cons.mp hp with rfl | hp
  · exact h1
  · rcases List.mem_cons.mp hp with rfl | hp
    · rw [hq]; exact Nat.lt_trans h1 h2
    · rcases List.mem_cons.mp hp with rfl | hp
      · rcases List.mem_cons.mp ha with rfl | ha
        · exact Nat.lt_succ_of_lt h0.1
        · exact Nat.lt_succ_of_lt (ktn_ltOf h0.2 a ha)
      · rcases List.mem_cons.mp ha with rfl | ha
        · exact h5 _ hX0 p hp
        · exact h5 a (hX a ha) p hp
structure RegIn (all news : List (Addr × Obj)) (vs : List Value) (d : Ty × Option Addr) : Prop where
  one : OneTy news vs d.1
  tab : TabOk (Str.ofString "regions_in.<locals>.noted") all d.2
noncomputable abbrev regsT : ToldG (Ty × Option Addr) where
  Rel := RegIn
  Pre := fun d => [(80, tabOf 47 4 d.2)]
  size := fun d => d.1.depth + 2
  Out := fun d pre all news r => ∃ c, pre = [(80, tabOf 47 4 (some c))] ∧ TabOk (Str.ofString "regions_in.<locals>.noted") all (some c) ∧ ∃ l n vs, r = .ref l ∧ (l, listOf vs.toArray n) ∈ news ∧ StrAll vs d.1.regs
noncomputable abbrev HypR (h : Heap) : Prop := CodeHd h 84 80
set_option hygiene false in
local macro_rules | `(tactic| walk_at "execs cons") => `(tactic| (k_here; (try k_gentoks); (try k_fold); (with_reducible refine execsN (s := s) ?_)))
local macro_rules | `(tactic| walk_at "m:mem") => `(tactic| first | assumption | exact List.Mem.head _ | (with_reducible refine memTail ?_; walk_at "m:mem") | (with_reducible refine memR ?_; walk_at "m:mem") | (with_reducible refine memL ?_; walk_at "m:mem"))
local macro_rules | `(tactic| k_mem) => `(tactic| walk_at "m:mem")
theorem ne80 {L : Addr} {o : Obj} {l : List (Addr × Obj)} (h : 80 < L ∧ AllLt L l) : ∀ p ∈ (80, o) :: l, p.1 ≠ L + 1 :=
  List.forall_mem_cons.mpr ⟨Nat.ne_of_lt (Nat.lt_succ_of_lt h.1), fun p hp => Nat.ne_of_lt (Nat.lt_succ_of_lt (ktn_ltOf h.2 p hp))⟩
theorem ne80' {L l' : Addr} {o : Obj} {l : List (Addr × Obj)} (h : L < l' ∧ 80 < l' ∧ AllLt l' l) : l' ≠ L := (Nat.ne_of_lt h.1).symm
local macro_rules | `(tactic| k_all) => `(tactic| first | assumption | exact ne80 (by assumption))
local macro_rules | `(tactic| walk_at "call ref") => `(tactic| (k_here; (with_reducible show wpAny _ _ (call (Value.ref _) _) _ _ _); refine Halt.go ?_))
local macro_rules | `(tactic| walk_at "eval Name") => `(tactic| (k_here; (with_reducible show wpAny _ _ (eval (Expr.Name (Str.ofString "found") _) (envX _ _ _ _ _ [_])) _ _ _); refine Halt.go ?_))
local macro_rules | `(tactic| walk_at "call builtin:list.append") => `(tactic| (k_here; refine Halt.go ?_))
local macro_rules | `(tactic| walk_at "m:el") => `(tactic| with_reducible first | exact memHead | (refine memTail ?_; walk_at "m:el") | (refine memR ?_; walk_at "m:el") | (refine memL ?_; walk_at "m:el"))
local macro_rules | `(tactic| walk_at "m:in") => `(tactic| with_reducible first | assumption | exact subRefl | exact subNil | (refine subCons ?_ ?_; (walk_at "m:el"); (walk_at "m:in")) | (refine subApp ?_ ?_; (walk_at "m:in"); (walk_at "m:in")) | (refine subTail ?_; walk_at "m:in") | (refine subR ?_; walk_at "m:in") | (refine subL ?_; walk_at "m:in"))
set_option maxHeartbeats 1500000 in
theorem regions_in_tells (w : World) (p : Program) (loose : List Str) (mean : ExcName → Option Value) (mg mb : Str → Option Value) (d : Ty × Option Addr) :
    TellsG HypR PySem.Challenge.rw_xw0159_01.row.prog w (hd.heap_1 w.params) p loose mean mg mb 85 regsT d := by
  k_fill
  obtain ⟨t, st⟩ := d
  unfold TellsG
  intro dp un gd cn cs a ccd cl outer A₀ base h₀ L m ext news s vs Q E B H F X N hoff T hk hR hdp hun hret
  obtain ⟨hR, hT⟩ := hR
  cases hR
  rename_i v hR
  dsimp only [regsT] at hdp hun N hoff hret
  have hc := cLine_is
  have hoff' : ∀ p ∈ ext ++ news, p.1 ≠ 80 := fun p hp => hoff _ (.head _) p hp
  cases st with
  | none =>
    simp only [tabOf, List.cons_append, List.nil_append] at N
    refine wpAny_call ?_
    k_dflt (refine' code_defC ?k1 ?k2 ?k3 ?k4 ?k5 ?kA ?kF ?kK ?k6 ?k7 ?k8 ?k9 ?kB ?kD ?_ ?c2 ?c3 ?c4; (case kA => exact rfl); (case kF => exact rfl); (case kK => assumption); (case k1 => k_asm); (case k2 => k_asm); (case k3 => k_asm); (case k4 => k_asm); (case k5 => k_asm); (case k6 => k_is); (case k7 => k_is); (case k8 => ktr_room); (case k9 => exact BindsTo.of_eq rfl); (case kB => exact rfl); (case kD => decide +kernel); (case c2 => exact rfl); (case c3 => exact rfl); (case c4 => exact rfl); k_whole; intro g' L' h' tk' cells' FG' F' N' Y' B' X' T' l1; (try k_lt l1); k_cells Y'; (try simp only [List.cons_append, List.nil_append] at N'); (try dsimp only); (try k_lift B'); (try k_fold))
    (try (((show let Mo0 := model _ _; let en0 : Env := _; let Ar0 := Around.deeper _ en0; wpAny Mo0 Ar0 (execs _ en0) _ _ _); intro Mo0 en0 Ar0; skip)))
    k_steps
    k_here
    refine nestDef_K ?d0 ?k0 ?a0 ?_
    case d0 => exact rfl
    case k0 => exact rfl
    case a0 => exact rfl
    refine' nest_K (qual := Str.ofString "regions_in.<locals>.noted") ?F ?N ?T ?C ?cd ?U ?t ?n ?cl ?_
    case F => k_asm
    case N => k_asm
    case T => k_asm
    case cd => exact rfl
    case C => kn_code
    case U => exact .tail (Nat.ne_of_gt (by omega)) (.tail (Nat.ne_of_gt (by omega)) (.head hoff'))
    case t => kn_triples
    case n => kn_among
    case cl => exact rfl
    intro f' c' oc' vs' t' ct' dc' h' tk' F' N' d1' d2' l1 l2
    rename_i lf _ lLf _ oFound _ NFound hFound
    refine pull1 N' fun q hq N2 => ?_
    have chg : ∀ d, TellsM PySem.Challenge.rw_xw0159_01.row.prog w (hd.heap_1 w.params) p loose mean mg mb f' (chgT (fun ws : List Value => [(lf, listOf ws.toArray ws.length)]) (fun ws v => ws ++ [v]) id (fun all => q ∈ all ∧ (c', oc') ∈ all ∧ (L' + 1, oFound) ∈ all) List.length 8000) d := by
      clear hret N N' N2 NFound hun hdp hoff hoff' lLf l1 l2 F' F X H B T
      intro d
      obtain ⟨ws, r, tk0⟩ := d
      unfold TellsM
      intro dp un gd cn cs a ccd cl outer A₀ base h₀ L m ext news s vs Q E B F X N hoff T hk hR hdp hun hret
      obtain ⟨hvs, ⟨hf, hcode, hcell⟩, hlen⟩ := hR
      dsimp only at hvs hlen
      subst hvs
      rw [hq] at hf
      dsimp only [chgT] at hdp hun N hoff hret
      refine wpAny_call ?_
      k_dflt (refine' code_nest ?k1 ?k2 ?k3 ?k4 ?k5 ?kA ?kF ?kK ?k6 ?k7 ?k8 ?k9 ?kB ?_ ?c2 ?c3 ?c4 ?c5)
      case kA => exact rfl
      case kF => exact rfl
      case kK => assumption
      case k1 => k_asm
      case k2 => k_asm
      case k3 => k_asm
      case k4 => k_asm
      case k5 => k_asm
      case k6 => exact memR hf
      case k7 => exact codeRec_news (by k_asm) (memR hcode) (by assumption) (by assumption)
      case k8 => ktr_room
      case k9 => exact BindsTo.of_eq rfl
      case c5 => decide
      case kB => exact locs rfl
      case c2 => exact rfl
      case c3 => exact rfl
      case c4 => exact rfl
      k_whole
      intro g' L' h' FG' F' N' B' X' T'
      (try dsimp only)
      (try k_lift B')
      (try k_fold)
      k_steps
      refine Halt.mk ?_
      k_dflt (refine nameX_F (o := oFound) (v := .ref lf) N' rfl (memR hcell) hFound ?_)
      k_steps
      refine Halt.mk ?_
      refine my_append (l := lf) (vs := ws) (n := ws.length) (ext ++ news) (by k_asm) (by k_asm) (.head _) (fun p hp => .tail _ hp) (fun p hp => hoff _ (.head _) p hp) (by rw [sizeLine_eq]; omega) ?_
      intro h2 F2 N2
      k_steps
      exact hret _ [(lf, listOf (ws ++ [Value.str r tk0]).toArray (ws.length + 1))] [] _ _ (by show _ = [(lf, listOf _ (ws ++ [Value.str r tk0]).length)]; rw [List.length_append]; rfl) (by k_asm) (nsub (by k_asm) (by walk_at "m:in")) (fun _ _ _ h => nomatch h) ⟨tk0, rfl⟩
    change News g' L' h' (q :: (c', oc') :: (lf, listOf #[] 0) :: (L' + 1, oFound) :: (80, tabOf 47 4 (some c')) :: (ext ++ news)) at N2
    clear N'
    k_steps
    refine Halt.mk ?_
    obtain ⟨oc9, od9, fd9, sl9, hf9⟩ : ∃ oc od fd sl, q = (f', (⟨oc, od, .func fd, sl⟩ : Obj)) := ⟨_, _, _, _, hq⟩
    k_dflt (refine' tellsM_use (c := wrT (fun ws : List Value => [(lf, listOf ws.toArray ws.length)]) (fun ws v => ws ++ [v]) id (fun all => q ∈ all ∧ (c', oc') ∈ all ∧ (L' + 1, oFound) ∈ all) List.length 8000 f') (d := (t, [])) (q :: (c', oc') :: (L' + 1, oFound) :: (80, tabOf 47 4 (some c')) :: (ext ++ news)) news ?k1 ?k2 ?k3 ?k4 ?k5 ?kK (with_regions_tells w p loose mean mg mb _ _ _ _ _ _ ?hlen _ ?hPa ?hClo chg _) ?hP ?hr ?hs ?ho ?kR ?kd ?ku ?_)
    (((case k1 => k_asm); (case k2 => k_asm); (case k3 => k_asm); (case k4 => k_asm); (case k5 => k_asm); (case kK => first | exact rfl | assumption)))
    case hlen => exact fun c v => Nat.le_of_eq (by rw [List.length_append]; rfl)
    case hPa => exact fun _ _ => rfl
    case hClo => exact fun l l' hs h => ⟨hs _ h.1, hs _ h.2.1, hs _ h.2.2⟩
    case hP => (dsimp only; intro p hp; obtain rfl := List.mem_singleton.mp hp; exact .tail _ (.tail _ (.head _)))
    case hr => walk_at "m:in"
    case hs => walk_at "m:in"
    case ho => (intro q' hq' p hp; obtain rfl := List.mem_singleton.mp hq'; exact offLf (by rw [hq]) lLf l1 l2 p hp)
    case kd => (dsimp only [ktrTop, wrT, Around.deeper] at hdp ⊢; omega)
    case ku => (dsimp only [ktrTop, wrT, Around.deeper] at hun ⊢; omega)
    case kR => exact .mk hR (by rw [← hf9]; exact memL (.head _)) ⟨.head _, .tail _ (.head _), .tail _ (.tail _ (.head _))⟩ (by have h1 := Ty.regs_len t; simp only [List.length_nil]; omega)
    intro r2 l2' tl2 h2 tk2 hp2 F2 N3 hl2 ho2
    obtain ⟨c2, ⟨ws, hws, hc2⟩, rfl⟩ := hp2
    k_steps
    have hc3 : c2 = ws := by rw [hc2]; exact foldl_snoc ws
    subst hc3
    exact hret _ [(80, tabOf 47 4 (some c'))] ((lf, listOf c2.toArray c2.length) :: q :: (c', oc') :: (L' + 1, oFound) :: tl2) _ _ rfl (by k_asm) (nsub (by k_asm) (by walk_at "m:in"))
      (ordRegs (by rw [hq]) (by assumption) lLf l1 l2 hl2 (memR (.tail _ (.tail _ (.tail _ (.head _))))) (fun p hp => memR (.tail _ (.tail _ (.tail _ (.tail _ hp))))))
      ⟨c', rfl, ⟨oc', vs', t', by walk_at "m:el", d1', d2'⟩, lf, _, c2, rfl, by walk_at "m:el", hws⟩
  | some c' =>
    obtain ⟨oc', vs', t', hm', d1', d2'⟩ := hT
    simp only [tabOf, List.cons_append, List.nil_append] at N
    refine wpAny_call ?_
    k_dflt (refine' code_defC ?k1 ?k2 ?k3 ?k4 ?k5 ?kA ?kF ?kK ?k6 ?k7 ?k8 ?k9 ?kB ?kD ?_ ?c2 ?c3 ?c4; (case kA => exact rfl); (case kF => exact rfl); (case kK => assumption); (case k1 => k_asm); (case k2 => k_asm); (case k3 => k_asm); (case k4 => k_asm); (case k5 => k_asm); (case k6 => k_is); (case k7 => k_is); (case k8 => ktr_room); (case k9 => exact BindsTo.of_eq rfl); (case kB => exact rfl); (case kD => decide +kernel); (case c2 => exact rfl); (case c3 => exact rfl); (case c4 => exact rfl); k_whole; intro g' L' h' tk' cells' FG' F' N' Y' B' X' T' l1; (try k_lt l1); k_cells Y'; (try simp only [List.cons_append, List.nil_append] at N'); (try dsimp only); (try k_lift B'); (try k_fold))
    (try (((show let Mo0 := model _ _; let en0 : Env := _; let Ar0 := Around.deeper _ en0; wpAny Mo0 Ar0 (execs _ en0) _ _ _); intro Mo0 en0 Ar0; skip)))
    k_steps
    k_here
    refine nestDef_K ?d0 ?k0 ?a0 ?_
    case d0 => exact rfl
    case k0 => exact rfl
    case a0 => exact rfl
    refine' nestHit_K (qual := Str.ofString "regions_in.<locals>.noted") (c' := c') ?F ?N ?T ?C ?cd ?mem ?t ?n ?cl ?_
    case F => k_asm
    case N => k_asm
    case T => k_asm
    case cd => exact rfl
    case C => kn_code
    case mem => exact .tail _ (.tail _ (.head _))
    case t => kn_triples
    case n => kn_hit
    case cl => exact rfl
    intro f' ct' dc' h' tk' F' N' l1
    rename_i lf _ lLf _ oFound _ NFound hFound
    refine pull1 N' fun q hq N2 => ?_
    have chg : ∀ d, TellsM PySem.Challenge.rw_xw0159_01.row.prog w (hd.heap_1 w.params) p loose mean mg mb f' (chgT (fun ws : List Value => [(lf, listOf ws.toArray ws.length)]) (fun ws v => ws ++ [v]) id (fun all => q ∈ all ∧ (c', oc') ∈ all ∧ (L' + 1, oFound) ∈ all) List.length 8000) d := by
      clear hret N N' N2 NFound hun hdp hoff hoff' lLf l1 F' F X H B T
      intro d
      obtain ⟨ws, r, tk0⟩ := d
      unfold TellsM
      intro dp un gd cn cs a ccd cl outer A₀ base h₀ L m ext news s vs Q E B F X N hoff T hk hR hdp hun hret
      obtain ⟨hvs, ⟨hf, hcode, hcell⟩, hlen⟩ := hR
      dsimp only at hvs hlen
      subst hvs
      rw [hq] at hf
      dsimp only [chgT] at hdp hun N hoff hret
      refine wpAny_call ?_
      k_dflt (refine' code_nest ?k1 ?k2 ?k3 ?k4 ?k5 ?kA ?kF ?kK ?k6 ?k7 ?k8 ?k9 ?kB ?_ ?c2 ?c3 ?c4 ?c5)
      case kA => exact rfl
      case kF => exact rfl
      case kK => assumption
      case k1 => k_asm
      case k2 => k_asm
      case k3 => k_asm
      case k4 => k_asm
      case k5 => k_asm
      case k6 => exact memR hf
      case k7 => exact codeRec_news (by k_asm) (memR hcode) (by assumption) (by assumption)
      case k8 => ktr_room
      case k9 => exact BindsTo.of_eq rfl
      case c5 => decide
      case kB => exact locs rfl
      case c2 => exact rfl
      case c3 => exact rfl
      case c4 => exact rfl
      k_whole
      intro g' L' h' FG' F' N' B' X' T'
      (try dsimp only)
      (try k_lift B')
      (try k_fold)
      k_steps
      refine Halt.mk ?_
      k_dflt (refine nameX_F (o := oFound) (v := .ref lf) N' rfl (memR hcell) hFound ?_)
      k_steps
      refine Halt.mk ?_
      refine my_append (l := lf) (vs := ws) (n := ws.length) (ext ++ news) (by k_asm) (by k_asm) (.head _) (fun p hp => .tail _ hp) (fun p hp => hoff _ (.head _) p hp) (by rw [sizeLine_eq]; omega) ?_
      intro h2 F2 N2
      k_steps
      exact hret _ [(lf, listOf (ws ++ [Value.str r tk0]).toArray (ws.length + 1))] [] _ _ (by show _ = [(lf, listOf _ (ws ++ [Value.str r tk0]).length)]; rw [List.length_append]; rfl) (by k_asm) (nsub (by k_asm) (by walk_at "m:in")) (fun _ _ _ h => nomatch h) ⟨tk0, rfl⟩
    change News g' L' h' (q :: (lf, listOf #[] 0) :: (L' + 1, oFound) :: (80, tabOf 47 4 (some c')) :: (ext ++ news)) at N2
    clear N'
    k_steps
    refine Halt.mk ?_
    obtain ⟨oc9, od9, fd9, sl9, hf9⟩ : ∃ oc od fd sl, q = (f', (⟨oc, od, .func fd, sl⟩ : Obj)) := ⟨_, _, _, _, hq⟩
    k_dflt (refine' tellsM_use (c := wrT (fun ws : List Value => [(lf, listOf ws.toArray ws.length)]) (fun ws v => ws ++ [v]) id (fun all => q ∈ all ∧ (c', oc') ∈ all ∧ (L' + 1, oFound) ∈ all) List.length 8000 f') (d := (t, [])) (q :: (L' + 1, oFound) :: (80, tabOf 47 4 (some c')) :: (ext ++ news)) news ?k1 ?k2 ?k3 ?k4 ?k5 ?kK (with_regions_tells w p loose mean mg mb _ _ _ _ _ _ ?hlen _ ?hPa ?hClo chg _) ?hP ?hr ?hs ?ho ?kR ?kd ?ku ?_)
    (((case k1 => k_asm); (case k2 => k_asm); (case k3 => k_asm); (case k4 => k_asm); (case k5 => k_asm); (case kK => first | exact rfl | assumption)))
    case hlen => exact fun c v => Nat.le_of_eq (by rw [List.length_append]; rfl)
    case hPa => exact fun _ _ => rfl
    case hClo => exact fun l l' hs h => ⟨hs _ h.1, hs _ h.2.1, hs _ h.2.2⟩
    case hP => (dsimp only; intro p hp; obtain rfl := List.mem_singleton.mp hp; exact .tail _ (.head _))
    case hr => walk_at "m:in"
    case hs => walk_at "m:in"
    case ho => (intro q' hq' p hp; obtain rfl := List.mem_singleton.mp hq'; exact offLf2 (by rw [hq]) lLf l1 p hp)
    case kd => (dsimp only [ktrTop, wrT, Around.deeper] at hdp ⊢; omega)
    case ku => (dsimp only [ktrTop, wrT, Around.deeper] at hun ⊢; omega)
    case kR => exact .mk hR (by rw [← hf9]; exact memL (.head _)) ⟨.head _, memOf (by walk_at "m:in") hm', .tail _ (.head _)⟩ (by have h1 := Ty.regs_len t; simp only [List.length_nil]; omega)
    intro r2 l2' tl2 h2 tk2 hp2 F2 N3 hl2 ho2
    obtain ⟨c2, ⟨ws, hws, hc2⟩, rfl⟩ := hp2
    k_steps
    have hc3 : c2 = ws := by rw [hc2]; exact foldl_snoc ws
    subst hc3
    exact hret _ [(80, tabOf 47 4 (some c'))] ((lf, listOf c2.toArray c2.length) :: q :: (L' + 1, oFound) :: tl2) _ _ rfl (by k_asm) (nsub (by k_asm) (by walk_at "m:in"))
      (ordRegs2 (by rw [hq]) (by assumption) lLf l1 hl2 (memR (.tail _ (.tail _ (.head _)))) (fun p hp => memR (.tail _ (.tail _ (.tail _ hp)))))
      ⟨c', rfl, ⟨oc', vs', t', memOf (by walk_at "m:in") hm', d1', d2'⟩, lf, _, c2, rfl, by walk_at "m:el", hws⟩
end Mine
end SP6
/-! P2 -/
section SP2
open PySem.Spec PySem.Calls
namespace Mine
noncomputable def Ty.subst (x : Str) (u : Ty) : Ty → Ty
  | .par y => if y = x then u else .par y
  | .bool => .bool
  | .u8 => .u8
  | .box t => .box (subst x u t)
  | .rf r t => .rf r (subst x u t)
  | .arr n t => .arr n (subst x u t)
  | .tup1 t => .tup1 (subst x u t)
  | .tup2 t' => .tup2 (subst x u t')
  | .adtS t => .adtS (subst x u t)
  | .adtR r t => .adtR r (subst x u t)
theorem Ty.subst_eq {x : Str} {u t : Ty} (h : ¬ ∃ y, t = .par y) : t.rebuild (t.parts.map (Ty.subst x u)) = Ty.subst x u t := by
  cases t <;> first | rfl | exact absurd ⟨_, rfl⟩ h
theorem Ty.subst_fits {x : Str} {u t : Ty} : t.fits (t.parts.map (Ty.subst x u)) := by
  cases t <;> simp [Ty.fits, Ty.parts, Ty.subst]
structure SubD where
  t : Ty
  x : Str
  u : Ty
inductive SubIn (prog : Program) (w : World) (all news : List (Addr × Obj)) : List Value → SubD → Prop
  | mk {v vu : Value} {t u : Ty} {x : Str} {d : Addr} {o : Obj} : TyIn news v t → (d, o) ∈ all → o.IsDictOf (strKind prog w) [(x, vu)] → (d == sysModules) = false → TyIn news vu u → SubIn prog w all news [v, .ref d] ⟨t, x, u⟩
noncomputable abbrev subT (prog : Program) (w : World) : ToldX SubD where
  Rel := SubIn prog w
  size := fun d => d.t.depth + 1
  Out := fun news r d => TyIn news r (Ty.subst d.x d.u d.t)
set_option hygiene false in
local macro_rules | `(tactic| walk_at "execs cons") => `(tactic| (k_here; (try k_gentoks); (try k_fold); (with_reducible refine execsN (s := s) ?_)))
local macro_rules | `(tactic| walk_at "m:mem") => `(tactic| first | assumption | exact List.Mem.head _ | (with_reducible refine memTail ?_; walk_at "m:mem") | (with_reducible refine memR ?_; walk_at "m:mem") | (with_reducible refine memL ?_; walk_at "m:mem"))
local macro_rules | `(tactic| k_mem) => `(tactic| walk_at "m:mem")
local macro_rules | `(tactic| walk_at "eval ListComp") => `(tactic| (k_here; k_dflt (refine ListComp_Tup (F₀ := by k_asm) (by with_unfolding_all rfl) (by decide) (by rfl) (by decide) (by rfl) ?_)))
local macro_rules | `(tactic| walk_at "subscriptTail") => `(tactic| (k_here; (with_reducible show wpAny _ _ (subscriptTail _ _ (Value.ref _) (Value.int 0 _)) _ _ _); k_dflt (refine item0 (by k_asm) (by k_mem) ?_)))
local macro_rules | `(tactic| walk_at "m:el") => `(tactic| with_reducible first | exact memHead | (refine memTail ?_; walk_at "m:el") | (refine memR ?_; walk_at "m:el") | (refine memL ?_; walk_at "m:el"))
local macro_rules | `(tactic| walk_at "m:in") => `(tactic| with_reducible first | assumption | exact subRefl | exact subNil | (refine subCons ?_ ?_; (walk_at "m:el"); (walk_at "m:in")) | (refine subApp ?_ ?_; (walk_at "m:in"); (walk_at "m:in")) | (refine subTail ?_; walk_at "m:in") | (refine subR ?_; walk_at "m:in") | (refine subL ?_; walk_at "m:in"))

set_option maxHeartbeats 16000000 in
theorem substituted_tells (w : World) (p : Program) (loose : List Str) (mean : ExcName → Option Value) (mg mb : Str → Option Value) (d₀ : SubD) :
    TellsX PySem.Challenge.rw_xw0159_01.row.prog w (hd.heap_1 w.params) p loose mean mg mb 73 (subT PySem.Challenge.rw_xw0159_01.row.prog w) d₀ := by
  k_fill
  refine tellsX_of (fun d IH => ?_) d₀
  clear d₀
  unfold TellsX
  intro dp un gd cn cs a ccd cl outer A₀ base h₀ L m ext news s vs Q E B F X N T hk hR hdp hun hret
  cases hR
  rename_i v vu t u x d o hR hd hD hS hU
  have hc := cLine_is
  have htp := Ty.depth_pos t
  dsimp only [subT] at hdp hun
  by_cases hpar : ∃ y, t = .par y
  · obtain ⟨y, rfl⟩ := hpar
    have hR0 := hR
    cases hR
    refine wpAny_call ?_
    (refine' code_defC ?k1 ?k2 ?k3 ?k4 ?k5 ?kA ?kF ?kK ?k6 ?k7 ?k8 ?k9 ?kB ?kD ?_ ?c2 ?c3 ?c4; (case kA => exact rfl); (case kF => exact rfl); (case kK => assumption); (case k1 => k_asm); (case k2 => k_asm); (case k3 => k_asm); (case k4 => k_asm); (case k5 => k_asm); (case k6 => k_is); (case k7 => k_is); (case k8 => ktr_room); (case k9 => exact BindsTo.of_eq rfl); (case kB => exact rfl); (case kD => decide +kernel); (case c2 => exact rfl); (case c3 => exact rfl); (case c4 => exact rfl); k_whole; intro g' L' h' tk' cells' FG' F' N' Y' B' X' T' l1; (try k_lt l1); k_cells Y'; (try simp only [List.cons_append, List.nil_append] at N'); (try dsimp only); (try k_lift B'); (try k_fold))
    (try (((show let Mo0 := model _ _; let en0 : Env := _; let Ar0 := Around.deeper _ en0; wpAny Mo0 Ar0 (execs _ en0) _ _ _); intro Mo0 en0 Ar0; skip)))
    k_steps
    k_dflt (refine kdg_method (knd := PySem.strKind _ _) (by k_asm) (memTail hd) hD ?_)
    k_steps
    k_dflt (refine kdg_get2 (knd := PySem.strKind _ _) (by k_asm) (memTail hd) hD hS (strKind_is _ _ _ _) (if y = x then some vu else none) valueAt_one ?_)
    by_cases hyx : y = x
    · simp only [hyx, if_true, Option.getD]
      k_steps
      exact hret _ [] _ _ (by k_asm) (nsub (by k_asm) (by walk_at "m:in")) ord0 (by simp [Ty.subst, hyx]; exact hU)
    · simp only [hyx, if_false, Option.getD]
      k_steps
      exact hret _ [] _ _ (by k_asm) (nsub (by k_asm) (by walk_at "m:in")) ord0 (by simp [Ty.subst, hyx]; exact hR0)
  · have hkind : (t.kind == ("param" : Str)) = false := by cases t <;> first | rfl | decide | exact absurd ⟨_, rfl⟩ hpar
    obtain ⟨a1, tk1, rest1, n1, rfl, hm1⟩ := hR.head
    refine wpAny_call ?_
    (refine' code_defC ?k1 ?k2 ?k3 ?k4 ?k5 ?kA ?kF ?kK ?k6 ?k7 ?k8 ?k9 ?kB ?kD ?_ ?c2 ?c3 ?c4; (case kA => exact rfl); (case kF => exact rfl); (case kK => assumption); (case k1 => k_asm); (case k2 => k_asm); (case k3 => k_asm); (case k4 => k_asm); (case k5 => k_asm); (case k6 => k_is); (case k7 => k_is); (case k8 => ktr_room); (case k9 => exact BindsTo.of_eq rfl); (case kB => exact rfl); (case kD => decide +kernel); (case c2 => exact rfl); (case c3 => exact rfl); (case c4 => exact rfl); k_whole; intro g' L' h' tk' cells' FG' F' N' Y' B' X' T' l1; (try k_lt l1); k_cells Y'; (try simp only [List.cons_append, List.nil_append] at N'); (try dsimp only); (try k_lift B'); (try k_fold))
    (try (((show let Mo0 := model _ _; let en0 : Env := _; let Ar0 := Around.deeper _ en0; wpAny Mo0 Ar0 (execs _ en0) _ _ _); intro Mo0 en0 Ar0; skip)))
    k_steps
    k_dflt (refine' tellsX_use (c := partsT) (d := t) news ?k1 ?k2 ?k3 ?k4 ?k5 ?kK (parts_of_tells w p loose mean mg mb t) ?hs ?kR ?kd ?ku ?_)
    (((case k1 => k_asm); (case k2 => k_asm); (case k3 => k_asm); (case k4 => k_asm); (case k5 => k_asm); (case kK => first | exact rfl | assumption)))
    case hs => walk_at "m:in"
    case kd => exact bud hdp (Nat.succ_le_succ htp)
    case ku => exact budU hun htp (Nat.le_of_ble_eq_true rfl)
    case kR => exact .mk hR
    intro r9 tl9 h9 tk9 F9 N9 hl9 ho9
    obtain ⟨a9, n9, vs9, rfl, hm9, hA9⟩ := ho9
    simp only [List.cons_append, List.append_assoc] at N9
    refine TupSrc.mk (its := vs9) (n := n9) rfl F9 N9 (memTail (memR hm9)) (by have h1 := Ty.parts_len t; rw [hA9.len]; exact Nat.le_trans h1 (by decide)) (fun g => ?_)
    refine compRest_map (σ := Unit) (fun _ => []) (fun _ _ _ => True) (Ty.subst x u) (core0 := news ++ tl9) (c0 := ()) (fun _ _ => rfl) hA9 ?_ (fun _ _ => memTail (memL (memR hm9))) ?_
    · intro c v t' tl ys I oI C oC D m2 h2 tk2 E2 ht' hI ho hNs hx2 F2 N2 off2 ne2
      have hlt := Ty.parts_depth ht'
      simp only [List.nil_append, List.cons_append, List.append_assoc] at N2
      (try k_fold)
      k_steps
      k_dflt (refine' tellsX_use (c := subT PySem.Challenge.rw_xw0159_01.row.prog w) (d := ⟨t', x, u⟩) (news ++ (tl9 ++ tl)) ?k1 ?k2 ?k3 ?k4 ?k5 ?kK (IH ⟨t', x, u⟩ ?kl) ?hs ?kR ?kd ?ku ?_)
      case kl => (dsimp only [subT]; omega)
      (((case k1 => k_asm); (case k2 => k_asm); (case k3 => k_asm); (case k4 => k_asm); (case k5 => k_asm); (case kK => first | exact rfl | assumption)))
      case hs => walk_at "m:in"
      case kd => (dsimp only [ktrTop, subT] at hdp ⊢; omega)
      case ku => (dsimp only [ktrTop, subT, Around.deeper] at hun ⊢; omega)
      case kR => exact .mk (hI.mono (by walk_at "m:in")) (memOf (by walk_at "m:in") hd) hD hS (hU.mono (by walk_at "m:in"))
      intro r3 tl3 h3 tk3 F3 N3 hl3 ho3
      simp only [List.cons_append, List.append_assoc] at ho3
      exact EltEnd.mk tl3 [] ⟨(), trivial, rfl⟩ F3 (nsub N3 (by walk_at "m:in")) (ordS hl3 (by walk_at "m:in")) (by simp only [List.append_assoc]; exact ho3)
    · intro _ ys tl _ ho hY
      unfold LCg.FinE
      intro D4 h4 tk4 F4 N4 o4
      simp only [List.nil_append, List.cons_append, List.append_assoc] at N4 hY
      k_steps
      k_dflt (refine' tellsX_use (c := rebT) (d := (t, t.parts.map (Ty.subst x u))) (news ++ (tl9 ++ tl)) ?k1 ?k2 ?k3 ?k4 ?k5 ?kK (rebuilt_tells w p loose mean mg mb _) ?hs ?kR ?kd ?ku ?_)
      (((case k1 => k_asm); (case k2 => k_asm); (case k3 => k_asm); (case k4 => k_asm); (case k5 => k_asm); (case kK => first | exact rfl | assumption)))
      case hs => walk_at "m:in"
      case kd => exact bud hdp (Nat.succ_le_succ htp)
      case ku => exact budU hun htp (Nat.le_of_ble_eq_true rfl)
      case kR => exact .mk (vs := ys) (hR.mono (by walk_at "m:in")) (memL (List.Mem.head _)) hY Ty.subst_fits
      intro r5 tl5 h5 tk5 F5 N5 hl5 ho5
      simp only [List.cons_append, List.append_assoc] at N5 ho5
      k_steps
      exact hret _ (tl9 ++ (tl ++ tl5)) _ _ (by k_asm) (nsub (by k_asm) (by walk_at "m:in")) (ordA (ordS hl9 (by walk_at "m:in")) (ordA (ordS ho (by walk_at "m:in")) (ordS hl5 (by walk_at "m:in")))) (by rw [Ty.subst_eq hpar] at ho5; exact ho5)
end Mine
end SP2
/-! L9 -/
section SL9
open PySem.Spec PySem.Calls
namespace Mine
noncomputable abbrev ent (w : World) (x : String) (k : Tok) (v : Value) : DictEntry := { hash := PyData.keyHash w.params (Str.ofString x), key := .str (Str.ofString x) k, val := v }
/-- the law's world, as it stands in the ledger: one struct R of one region, one parameter and one field -/
inductive WorldIn (w : World) (l : List (Addr × Obj)) : Value → Ty → Prop
  | mk {x dx da r dr tr tp lv row lf pr : Addr} {oda : Obj} {inner : Ty} {held : Value} {n1 n2 n3 n4 n5 n6 n7 n8 n9 : Nat} {k1 k2 k3 k4 k5 k6 k7 k8 k9 k10 k11 k12 k13 k14 k15 k16 k17 k18 k19 k20 : Tok} {u1 u2 u3 u4 u5 u6 u7 v1 v2 v3 v4 : Value} :
    (x, instObj 162 dx) ∈ l → (dx == sysModules) = false → (da == sysModules) = false → (dx, dictOf [ent w "modules" k1 u1, ent w "adts" k2 (.ref da), ent w "variants" k3 u2, ent w "sigs" k4 u3, ent w "traits" k5 u4, ent w "impls" k6 u5, ent w "consts" k7 u6, ent w "bodies" k8 u7] n1) ∈ l →
    (da, oda) ∈ l → oda.IsDictOf (PySem.strKind PySem.Challenge.rw_xw0159_01.row.prog w) [(Str.ofString "R", Value.ref r)] →
    (r, instObj 133 dr) ∈ l → (dr, dictOf [ent w "path" k9 v1, ent w "module" k10 v2, ent w "regions" k11 (.ref tr), ent w "params" k12 (.ref tp), ent w "variants" k13 (.ref lv), ent w "publics" k14 v3, ent w "is_enum" k15 v4] n2) ∈ l →
    (tr, tupO [.str (Str.ofString "'a") k16] n3) ∈ l → (tp, tupO [.str (Str.ofString "T") k17] n4) ∈ l → (lv, listOf #[.ref row] n5) ∈ l → (row, tupO [.str (Str.ofString "R") k18, .str (Str.ofString "named") k19, .ref lf] n6) ∈ l →
    (lf, listOf #[.ref pr] n7) ∈ l → (pr, tupO [.str (Str.ofString "n") k20, held] n8) ∈ l → TyIn l held (.rf (Str.ofString "'a") (.adtR (Str.ofString "'a") inner)) → WorldIn w l (.ref x) inner
end Mine
end SL9
/-! L10 -/
section SL10
open PySem.Spec PySem.Calls
namespace Mine
/-! dict(zip(a, b)) of two tuples of one item each -/
noncomputable abbrev zipO (TI TO : Addr) (f0 f1 : Value) : Obj := { cls := .type "zip", dict := none, data := .fields #[f0, f1, .bool false, .ref TI, .ref TO], slots := #[] }
noncomputable abbrev itO (t : Addr) (i : Nat) : Obj := { cls := .type "tuple_iterator", data := .fields #[.ref t, .int i 0] }
noncomputable abbrev prO (a b : Value) : Obj := { cls := .type "tuple", data := .seq #[a, b] }
theorem ml_loadIfAlive {M : Model} {A : Around} {Q : Option Obj → Shared → Prop} {E : Value → Shared → Prop} {s : Shared} {a : Addr} (h : Q (s.heap.get? a) s) : wpAny M A (loadIfAlive a) Q E s := fun _ _ _ => h
section
variable {prog : Program} {w : World} {A : Around} {E : Value → Shared → Prop} {s : Shared}
theorem ml_nextOf_item {it t : Addr} {i : Nat} {items : Array Value} {x : Value} {Q : Value → Shared → Prop} (hit : s.heap.get? it = some (itO t i)) (ht : s.heap.IsTuple t items) (hx : items[i]? = some x)
    (hQ : ∀ h', h'.get? it = some (itO t (i + 1)) → Heap.SameBut it s.heap h' → Q x { s with heap := h' }) : wpAny (model prog w) A (Builtin.SmallTypes.nextOf (.ref it)) Q E s := by
  obtain ⟨ol, hol, _, nl, hdl⟩ := ht
  have hT : s.TypeIs (.ref it) "tuple_iterator" := ⟨_, hit, rfl⟩
  unfold Builtin.SmallTypes.nextOf
  refine wpAny_bind (wpAny_callSpecial?_slot (name := Str.ofString "__next__") hT F.slot_tuple_iterator_next (wpAny_call_entry F.slot_tuple_iterator_next hT F.entry_tuple_iterator_next ?_ (F.args_tuple_iterator_next_1 _)))
  show wpAny _ _ (field (.ref it) 0 >>= _) _ _ s
  refine wpAny_bind (wpAny_field hit rfl (x := .ref t) rfl ?_)
  show wpAny _ _ (if (Value.ref t == Value.none) = true then _ else _) _ _ s
  rw [if_neg (show ¬ ((Value.ref t == Value.none) = true) from Bool.false_ne_true)]
  show wpAny _ _ (field (.ref it) 1 >>= _) _ _ s
  refine wpAny_bind (wpAny_field hit rfl (x := .int i 0) rfl ?_)
  show wpAny _ _ (seqItems? (.ref t) >>= _) _ _ s
  refine wpAny_bind (wpAny_seqItems hol hdl ?_)
  simp only [Int.toNat_natCast, hx]
  refine wpAny_bind (wpAny_setField_rec hit (by simp) fun h' hz hs => wpAny_pure ⟨x, rfl, wpAny_pure (hQ h' ?_ hs)⟩)
  exact hz
theorem ml_nextOf_end {it t : Addr} {i : Nat} {items : Array Value} {Q : Value → Shared → Prop} (hh : A.handled = none) (hit : s.heap.get? it = some (itO t i)) (ht : s.heap.IsTuple t items) (hx : items[i]? = none)
    (hE : ∀ h' e, Heap.ExtBut it s.heap h' → (∃ o, h'.get? e = some o ∧ o.cls = .type "StopIteration") → E (.ref e) { s with heap := h' }) :
    wpAny (model prog w) A (Builtin.SmallTypes.nextOf (.ref it)) Q E s := by
  obtain ⟨ol, hol, _, nl, hdl⟩ := ht
  have hT : s.TypeIs (.ref it) "tuple_iterator" := ⟨_, hit, rfl⟩
  unfold Builtin.SmallTypes.nextOf
  refine wpAny_bind (wpAny_callSpecial?_slot (name := Str.ofString "__next__") hT F.slot_tuple_iterator_next (wpAny_call_entry F.slot_tuple_iterator_next hT F.entry_tuple_iterator_next ?_ (F.args_tuple_iterator_next_1 _)))
  show wpAny _ _ (field (.ref it) 0 >>= _) _ _ s
  refine wpAny_bind (wpAny_field hit rfl (x := .ref t) rfl ?_)
  show wpAny _ _ (if (Value.ref t == Value.none) = true then _ else _) _ _ s
  rw [if_neg (show ¬ ((Value.ref t == Value.none) = true) from Bool.false_ne_true)]
  show wpAny _ _ (field (.ref it) 1 >>= _) _ _ s
  refine wpAny_bind (wpAny_field hit rfl (x := .int i 0) rfl ?_)
  show wpAny _ _ (seqItems? (.ref t) >>= _) _ _ s
  refine wpAny_bind (wpAny_seqItems hol hdl ?_)
  simp only [Int.toNat_natCast, hx]
  refine wpAny_bind (wpAny_rule (wpAny_bind (wpAny_setField hit rfl (by simp) ?_)))
  show wpAny _ _ (newExc (.type "StopIteration") [] >>= _) _ _ _
  refine wpAny_bind ?_
  simp only [newExc, newTuple]
  refine wpAny_bind (wpAny_newObj_type ?_ (by size_fits))
  refine wpAny_bind (m := firstArgMember _ _) (wpAny_of_eq (a := Value.none) (by first | rfl | (simp only [firstArgMember]; rfl)) ?_)
  refine wpAny_newObj_type ?_ (by size_fits)
  simp only [raiseNew]
  refine wpAny_bind (wpAny_handled ?_)
  rw [show A.in1.handled = none from hh]
  refine wpAny_bind (wpAny_pure (wpAny_throw ?_))
  exact hE _ _ (((Heap.SameBut.update ..).extBut.push _).push _) ⟨_, Heap.get?_push_size _ rfl, rfl⟩
/-- the zip's first turn -/
theorem ml_zip_item {z TI TO i1 i2 t1 t2 : Addr} {xs ys : Array Value} {x y : Value} {Q : Option Value → Shared → Prop}
    (d1 : TI ≠ z) (d2 : TO ≠ z) (d3 : i1 ≠ z) (d4 : i2 ≠ z) (d5 : TI ≠ TO) (d6 : TI ≠ i1) (d7 : TI ≠ i2) (d8 : TO ≠ i1) (d9 : TO ≠ i2) (d10 : i1 ≠ i2) (d11 : t1 ≠ z) (d12 : t1 ≠ TO) (d13 : t1 ≠ i1) (d14 : t1 ≠ i2) (d15 : t2 ≠ z) (d16 : t2 ≠ TO) (d17 : t2 ≠ i1) (d18 : t2 ≠ i2)
    (hz : s.heap.get? z = some (zipO TI TO .none (.bool false))) (hTI : s.heap.get? TI = some (prO (.ref i1) (.ref i2))) (hTO : s.heap.get? TO = some (prO .none .none))
    (h1 : s.heap.get? i1 = some (itO t1 0)) (h2 : s.heap.get? i2 = some (itO t2 0)) (ht1 : s.heap.IsTuple t1 xs) (ht2 : s.heap.IsTuple t2 ys) (hx : xs[0]? = some x) (hy : ys[0]? = some y)
    (hQ : ∀ h', h'.get? z = some (zipO TI TO (rawInt s.heap.objs.size) (.bool false)) → h'.get? i1 = some (itO t1 1) → h'.get? s.heap.objs.size = some (prO x y) →
      (∀ c o, c ≠ z → c ≠ TO → c ≠ i1 → c ≠ i2 → s.heap.get? c = some o → h'.get? c = some o) → Q (some (.ref s.heap.objs.size)) { s with heap := h' }) :
    wpAny (model prog w) A (pyNext (.ref z)) Q E s := by
  have hT : s.TypeIs (.ref z) "zip" := ⟨_, hz, rfl⟩
  unfold pyNext
  refine wpAny_bind (wpAny_attempt (wpAny_callSpecial?_slot (name := Str.ofString "__next__") hT F.slot_zip_next (wpAny_call_entry F.slot_zip_next hT F.entry_zip_next ?_ (F.args_zip_next_1 _))))
  show wpAny _ _ (field (.ref z) 2 >>= _) _ _ _
  refine wpAny_bind (wpAny_field hz rfl (x := .bool false) rfl ?_)
  show wpAny _ _ (field (.ref z) 3 >>= _) _ _ _
  refine wpAny_bind (wpAny_field hz rfl (x := .ref TI) rfl ?_)
  refine wpAny_bind (wpAny_seqItems hTI rfl ?_)
  show wpAny _ _ (Builtin.SmallTypes.ownedTupleIsFree (.ref z) >>= _) _ _ _
  refine wpAny_bind ?_
  unfold Builtin.SmallTypes.ownedTupleIsFree
  refine wpAny_bind (wpAny_field hz rfl (x := .none) rfl (wpAny_pure ?_))
  simp only [if_true]
  refine wpAny_bind (wpAny_rule ?_)
  refine wpAny_bind (wpAny_field hz rfl (x := .ref TO) rfl ?_)
  refine wpAny_bind (wpAny_setField_rec hz (by simp) fun g1 hz1 hs1 => ?_)
  refine wpAny_bind ?_
  simp only [List.zipIdx_cons, List.zipIdx_nil, List.forIn_cons, List.forIn_nil]
  refine wpAny_bind (wpAny_bind (wpAny_onRaise ?_))
  show wpAny _ _ (Builtin.SmallTypes.nextOf (.ref i1) >>= _) _ _ _
  have tup : ∀ {h h' : Heap} {t : Addr} {xs : Array Value}, h.IsTuple t xs → (∀ o, h.get? t = some o → h'.get? t = some o) → h'.IsTuple t xs := fun ⟨o, ho, r⟩ k => ⟨o, k o ho, r⟩
  refine wpAny_bind (ml_nextOf_item ((hs1.2 i1 d3).trans h1) (tup ht1 fun o e => (hs1.2 t1 d11).trans e) hx fun g2 h12 hs2 => wpAny_pure ?_)
  have hTO2 : g2.get? TO = some (prO .none .none) := (hs2.2 TO d8).trans ((hs1.2 TO d2).trans hTO)
  refine wpAny_bind (wpAny_seqItems hTO2 rfl ?_)
  refine wpAny_bind (wpAny_updateSeq_pair hTO2 fun g3 hTO3 hs3 => ?_)
  replace hTO3 : IsPair g3 TO x .none := hTO3
  refine wpAny_bind (wpAny_letGo (wpAny_pure ?_))
  refine wpAny_bind (wpAny_bind (wpAny_onRaise ?_))
  show wpAny _ _ (Builtin.SmallTypes.nextOf (.ref i2) >>= _) _ _ _
  refine wpAny_bind (ml_nextOf_item (((hs3.2 i2 (Ne.symm d9)).trans (hs2.2 i2 (Ne.symm d10))).trans ((hs1.2 i2 d4).trans h2)) (tup ht2 fun o e => ((hs3.2 t2 d16).trans (hs2.2 t2 d17)).trans ((hs1.2 t2 d15).trans e)) hy fun g4 h24 hs4 => wpAny_pure ?_)
  have hTO4 : IsPair g4 TO x .none := (hs4.2 TO d9).trans hTO3
  refine wpAny_bind (wpAny_seqItems hTO4 rfl ?_)
  refine wpAny_bind (wpAny_updateSeq_pair hTO4 fun g5 hTO5 hs5 => ?_)
  replace hTO5 : IsPair g5 TO x y := hTO5
  refine wpAny_bind (wpAny_letGo (wpAny_pure (wpAny_pure ?_)))
  refine wpAny_bind (wpAny_seqItems hTO5 rfl ?_)
  refine wpAny_bind (wpAny_newTuple ?_)
  have hsz : g5.objs.size = s.heap.objs.size := by rw [hs5.1, hs4.1, hs3.1, hs2.1, hs1.1]
  have hz5 := (hs5.2 z (Ne.symm d2)).trans ((hs4.2 z (Ne.symm d4)).trans ((hs3.2 z (Ne.symm d2)).trans ((hs2.2 z (Ne.symm d3)).trans hz1)))
  have hk5 : ∀ c o, c ≠ z → c ≠ TO → c ≠ i1 → c ≠ i2 → s.heap.get? c = some o → g5.get? c = some o := fun c o c1 c2 c3 c4 e =>
    (hs5.2 c c2).trans ((hs4.2 c c4).trans ((hs3.2 c c2).trans ((hs2.2 c c3).trans ((hs1.2 c c1).trans e))))
  have hi5 : g5.get? i1 = some (itO t1 1) := (hs5.2 i1 (Ne.symm d8)).trans ((hs4.2 i1 d10).trans ((hs3.2 i1 (Ne.symm d8)).trans h12))
  have hzlt : z < g5.objs.size := Heap.lt_size hz5
  show wpAny _ _ (Builtin.SmallTypes.ownedTupleHandOut (.ref z) (.ref g5.objs.size) >>= _) _ _ _
  refine wpAny_bind ?_
  unfold Builtin.SmallTypes.ownedTupleHandOut
  have hz6 := Heap.get?_push_of_some (prO x y) hz5
  refine wpAny_bind (wpAny_setField_rec hz6 (by simp) fun g7 hz7 hs7 => ?_)
  refine wpAny_setField_rec hz7 (by simp) fun g8 hz8 hs8 => ?_
  have up : ∀ c o, c ≠ z → g5.get? c = some o → g8.get? c = some o := fun c o c1 e => (hs8.2 c c1).trans ((hs7.2 c c1).trans (Heap.get?_push_of_some _ e))
  have hT8 : g8.get? g5.objs.size = some (prO x y) := (hs8.2 _ (Nat.ne_of_gt hzlt)).trans ((hs7.2 _ (Nat.ne_of_gt hzlt)).trans (Heap.get?_push_size _ rfl))
  refine wpAny_pure ⟨_, rfl, ?_⟩
  rw [hsz] at hT8
  have hz9 : g8.get? z = some (zipO TI TO (rawInt s.heap.objs.size) (.bool false)) := by rw [← hsz]; exact hz8
  have q := hQ g8 hz9 (up _ _ d3 hi5) hT8 fun c o c1 c2 c3 c4 e => up c o c1 (hk5 c o c1 c2 c3 c4 e)
  rw [← hsz] at q
  exact wpAny_pure q
/-- the zip's second turn, its own tuple being held: it ends -/
theorem ml_zip_end {z TI TO i1 i2 t1 T : Addr} {xs : Array Value} {o : Obj} {Q : Option Value → Shared → Prop} (hh : A.handled = none) (d1 : TI ≠ z) (d3 : i1 ≠ z) (d11 : t1 ≠ z)
    (hz : s.heap.get? z = some (zipO TI TO (rawInt T) (.bool false))) (hTI : s.heap.get? TI = some (prO (.ref i1) (.ref i2))) (hT9 : s.heap.get? T = some o)
    (h1 : s.heap.get? i1 = some (itO t1 1)) (ht1 : s.heap.IsTuple t1 xs) (hx : xs[1]? = none)
    (hQ : ∀ h', (∀ c o, c ≠ z → c ≠ i1 → s.heap.get? c = some o → h'.get? c = some o) → Q none { s with heap := h' }) :
    wpAny (model prog w) A (pyNext (.ref z)) Q E s := by
  have hT : s.TypeIs (.ref z) "zip" := ⟨_, hz, rfl⟩
  unfold pyNext
  refine wpAny_bind (wpAny_attempt (wpAny_callSpecial?_slot (name := Str.ofString "__next__") hT F.slot_zip_next (wpAny_call_entry F.slot_zip_next hT F.entry_zip_next ?_ (F.args_zip_next_1 _))))
  show wpAny _ _ (field (.ref z) 2 >>= _) _ _ _
  refine wpAny_bind (wpAny_field hz rfl (x := .bool false) rfl ?_)
  show wpAny _ _ (field (.ref z) 3 >>= _) _ _ _
  refine wpAny_bind (wpAny_field hz rfl (x := .ref TI) rfl ?_)
  refine wpAny_bind (wpAny_seqItems hTI rfl ?_)
  show wpAny _ _ (Builtin.SmallTypes.ownedTupleIsFree (.ref z) >>= _) _ _ _
  refine wpAny_bind ?_
  unfold Builtin.SmallTypes.ownedTupleIsFree
  refine wpAny_bind (wpAny_field hz rfl (x := rawInt T) rfl ?_)
  show wpAny _ _ (loadIfAlive T >>= _) _ _ _
  refine wpAny_bind ?_
  refine ml_loadIfAlive ?_
  rw [hT9]
  simp only [Option.isNone_some, Bool.false_eq_true, if_false]
  refine wpAny_bind (wpAny_field hz rfl (x := .bool false) rfl ?_)
  rw [if_pos (by decide)]
  refine wpAny_bind (wpAny_setField_rec hz (by simp) fun g1 hz1 hs1 => wpAny_pure ?_)
  have tup : ∀ {h h' : Heap} {t : Addr} {xs : Array Value}, h.IsTuple t xs → (∀ o, h.get? t = some o → h'.get? t = some o) → h'.IsTuple t xs := fun ⟨o, ho, r⟩ k => ⟨o, k o ho, r⟩
  (try dsimp only)
  simp only [Bool.false_eq_true, if_false]
  refine wpAny_bind ?_
  rw [show (#[Value.ref i1, Value.ref i2] : Array Value) = [Value.ref i1, Value.ref i2].toArray from rfl, List.forIn_toArray, List.forIn_cons]
  refine wpAny_bind (wpAny_bind (wpAny_holding ?_))
  show wpAny _ _ (Builtin.SmallTypes.nextOf (.ref i1) >>= _) _ _ _
  refine wpAny_bind (ml_nextOf_end hh ((hs1.2 i1 d3).trans h1) (tup ht1 fun o e => (hs1.2 t1 d11).trans e) hx fun g2 e hs2 he => ?_)
  obtain ⟨oe, hoe, hce⟩ := he
  refine wpAny_bind (wpAny_isInstance (T := "StopIteration") (b := true) ⟨oe, hoe, hce⟩ isSubtype_stop ?_)
  exact wpAny_pure (hQ _ fun c o c1 c2 x => hs2 _ _ c2 ((hs1.2 c c1).trans x))
end
section
noncomputable abbrev zh1 (h : Heap) (t1 : Addr) : Heap := h.push (itO t1 0)
noncomputable abbrev zh2 (h : Heap) (t1 t2 : Addr) : Heap := (zh1 h t1).push (itO t2 0)
noncomputable abbrev zh3 (h : Heap) (t1 t2 : Addr) : Heap := (zh2 h t1 t2).push (prO (.ref h.objs.size) (.ref (zh1 h t1).objs.size))
noncomputable abbrev zh4 (h : Heap) (t1 t2 : Addr) : Heap := (zh3 h t1 t2).push (prO .none .none)
noncomputable abbrev zh5 (h : Heap) (t1 t2 : Addr) : Heap := (zh4 h t1 t2).push (zipO (zh2 h t1 t2).objs.size (zh3 h t1 t2).objs.size .none (.bool false))
theorem ml_meets_zip (t1 t2 : Addr) (xs ys : Array Value) :
    Meets (Builtin.«zip.__new__» ⟨[.type "zip", .ref t1, .ref t2], []⟩) (fun _ R s => s.heap.IsTuple t1 xs ∧ s.heap.IsTuple t2 ys ∧ R (.ok (.ret (.ref (zh4 s.heap t1 t2).objs.size))) { s with heap := zh5 s.heap t1 t2 }) :=
  .of_wp fun prog w A R s h => by
    obtain ⟨hp, g, d, tk, os⟩ := s; obtain ⟨hl1, hl2, h⟩ := h
    have hsub := sub_zip
    have hL1 : Heap.IsTuple (Shared.heap ⟨hp, g, d, tk, os⟩) t1 xs := hl1
    have hL2 : Heap.IsTuple (Shared.heap ⟨hp.push { cls := .type "tuple_iterator", data := .fields #[.ref t1, .int 0 0] }, g, d, tk, os⟩) t2 ys := Heap.IsTuple.push hl2 _
    wp_walk using wpAny_pyIter_tuple hL1, wpAny_pyIter_tuple hL2
    exact ⟨_, rfl, h⟩
/-- the objects of a zip that has not turned yet, made in a row from i on -/
structure ZipAt (h : Heap) (i t1 t2 : Addr) : Prop where
  z : h.get? (i + 4) = some (zipO (i + 2) (i + 3) .none (.bool false))
  ti : h.get? (i + 2) = some (prO (.ref i) (.ref (i + 1)))
  to : h.get? (i + 3) = some (prO .none .none)
  i1 : h.get? i = some (itO t1 0)
  i2 : h.get? (i + 1) = some (itO t2 0)
variable {prog : Program} {w : World} {A : Around} {E : Value → Shared → Prop} {s : Shared} {h₀ : Heap} {L : Addr} {m : Str → Option Value} {all : List (Addr × Obj)}
theorem ml_call_zip {t1 t2 : Addr} {xs ys : List Value} {n1 n2 : Nat} {Q : Value → Shared → Prop} (F : Fr h₀ L s.heap m) (N : News h₀ L s.heap all) (m1 : (t1, tupO xs n1) ∈ all) (m2 : (t2, tupO ys n2) ∈ all)
    (h : ∀ i h', Fr h₀ L h' m → News h₀ L h' all → (∀ p ∈ all, p.1 < i) → L < i → ZipAt h' i t1 t2 → Q (.ref (i + 4)) { s with heap := h' }) :
    wpAny (model prog w) A (call (.type "zip") [.ref t1, .ref t2]) Q E s := by
  refine callType_new PySem.F.called_zip (by decide) (PySem.F.typeCall_zip_2 _ _) (PySem.F.newCall_zip_2 _ _) (fun obj => PySem.F.args_object_init_3 obj _ _) PySem.F.entry_zip_new
    (ml_meets_zip t1 t2 xs.toArray ys.toArray) ⟨⟨_, (N _ m1).1, rfl, n1, rfl⟩, ⟨_, (N _ m2).1, rfl, n2, rfl⟩, ?_⟩
  have z1 : (zh1 s.heap t1).objs.size = s.heap.objs.size + 1 := Heap.size_push ..
  have z2 : (zh2 s.heap t1 t2).objs.size = s.heap.objs.size + 2 := by rw [Heap.size_push, z1]
  have z3 : (zh3 s.heap t1 t2).objs.size = s.heap.objs.size + 3 := by rw [Heap.size_push, z2]
  have z4 : (zh4 s.heap t1 t2).objs.size = s.heap.objs.size + 4 := by rw [Heap.size_push, z3]
  have g5 : (zh5 s.heap t1 t2).get? (zh4 s.heap t1 t2).objs.size = some _ := Heap.get?_push_size _ rfl
  have g4 : (zh5 s.heap t1 t2).get? (zh3 s.heap t1 t2).objs.size = some _ := Heap.get?_push_of_some _ (Heap.get?_push_size _ rfl)
  have g3 : (zh5 s.heap t1 t2).get? (zh2 s.heap t1 t2).objs.size = some _ := Heap.get?_push_of_some _ (Heap.get?_push_of_some _ (Heap.get?_push_size _ rfl))
  have g2 : (zh5 s.heap t1 t2).get? (zh1 s.heap t1).objs.size = some _ := Heap.get?_push_of_some _ (Heap.get?_push_of_some _ (Heap.get?_push_of_some _ (Heap.get?_push_size _ rfl)))
  have g1 : (zh5 s.heap t1 t2).get? s.heap.objs.size = some _ := Heap.get?_push_of_some _ (Heap.get?_push_of_some _ (Heap.get?_push_of_some _ (Heap.get?_push_of_some _ (Heap.get?_push_size _ rfl))))
  show _ ∧ _
  rw [z2, z3, z4] at g5
  rw [z1, z2] at g3
  rw [z3] at g4
  rw [z1] at g2
  rw [z4]
  have up : ∀ c o, s.heap.get? c = some o → (zh5 s.heap t1 t2).get? c = some o := fun c o x => Heap.get?_push_of_some _ (Heap.get?_push_of_some _ (Heap.get?_push_of_some _ (Heap.get?_push_of_some _ (Heap.get?_push_of_some _ x))))
  exact ⟨⟨_, g5, rfl⟩, h s.heap.objs.size _ (F.keeps up) (N.grown up) (fun p hp => Heap.lt_size (N p hp).1) F.ns.lt ⟨g5, g3, g4, g1, g2⟩⟩
theorem ml_zip_ga_entry : entryFor table "zip.__getattribute__" = some Builtin.«object.__getattribute__» :=
  entryFor_alias (id' := "object.__getattribute__") (by kernel_rfl) (by first | rfl | decide +kernel | (unfold String.splitOn; simp +decide [String.splitOnAux])) (by decide +kernel) (by kernel_rfl)
theorem ml_zip_no_hook : typeLookup (.type "zip") "__getattr__" = pure none := by rw [typeLookup_type, builtinLookup_eq_fast]; kernel_rfl
theorem ml_zip_no_keys : typeLookup (.type "zip") "keys" = pure none := by rw [typeLookup_type, builtinLookup_eq_fast]; kernel_rfl
theorem ml_meets_zip_miss (a TI TO : Addr) (f0 f1 : Value) (u : Tok) :
    Meets (Builtin.«object.__getattribute__» ⟨[.ref a, .str "keys" u], []⟩) (fun A R s => s.heap.get? a = some (zipO TI TO f0 f1) ∧ raisesAttr (.ref a) "keys" A R s) :=
  Meets.of_wp fun prog w A R s hs => by
    obtain ⟨hp, g, d, tk, os⟩ := s
    obtain ⟨hx, hs⟩ := hs
    have hT : (⟨hp, g, d, tk, os⟩ : Shared).TypeIs (.ref a) "zip" := ⟨_, hx, rfl⟩
    have hm := ml_zip_no_keys
    unfold Builtin.«object.__getattribute__»
    repeat (any_goals (first | assumption | wp_step))
    exact wpAny_raiseAttrError hs.1 hs.2 (attrMsg_fits (by decide +kernel) (by size_fits))
theorem ml_zip_miss {a TI TO : Addr} {f0 f1 : Value} {Q : Option Value → Shared → Prop} (hx : s.heap.get? a = some (zipO TI TO f0 f1)) (hA : A.handled = none)
    (h : ∀ h' tk, (∀ c o, s.heap.get? c = some o → h'.get? c = some o) → Q none { s with heap := h', toks := tk }) : wpAny (model prog w) A (getAttr? (.ref a) "keys") Q E s := by
  obtain ⟨hp, g, d, tk, os⟩ := s
  have hT : ∀ tk', (⟨hp, g, d, tk', os⟩ : Shared).TypeIs (.ref a) "zip" := fun _ => ⟨_, hx, rfl⟩
  have f1 := sub_AttributeError
  have f3 := PySem.F.slot_zip_getattribute.lookup
  have f4 := PySem.F.slot_zip_getattribute.bind (.ref a)
  have f5 := ml_zip_no_hook
  unfold getAttr? getAttrBy? getAttrBy
  repeat (any_goals (first | assumption | exact hT _ | ((with_reducible show wpAny _ _ (call (Value.builtin "zip.__getattribute__") _ _) _ _ _); refine call_meets PySem.F.slot_zip_getattribute (hT _) ml_zip_ga_entry (PySem.F.args_zip_getattribute_2 _ _) (ml_meets_zip_miss a TI TO _ _ _) ⟨hx, hA, fun h' tk' e hx' => ?_⟩) | wp_step))
  obtain ⟨t', u', he⟩ := hx'.there
  show wpAny _ _ (getattributeRaised _ _ _ _ _ _ _) _ _ _
  unfold getattributeRaised
  repeat (any_goals (first | assumption | wp_step))
  exact h _ _ hx'.keeps
theorem ml_entry_update_loop : entryFor table "dict.update.loop" = some Builtin.«dict.update.loop» := entryFor_of_tree (by kernel_rfl)
theorem ml_plain_update_loop : plainId "dict.update.loop" = true := by decide +kernel
variable {knd : KeyKind prog w Str}
local macro_rules | `(tactic| walk_at "m:ne") => `(tactic| ((try show @Ne Nat _ _); (try show @LT.lt Nat _ _ _); omega))
theorem ml_call_dict_zip {i t1 t2 : Addr} {k : Str} {key v : Value} {n1 n2 : Nat} {Q : Value → Shared → Prop} (hh : A.handled = none) (hkey : knd.is k key = true) (F : Fr h₀ L s.heap m) (N : News h₀ L s.heap all) (m1 : (t1, tupO [key] n1) ∈ all) (m2 : (t2, tupO [v] n2) ∈ all)
    (lt : ∀ p ∈ all, p.1 < i) (hL : L < i) (Z : ZipAt s.heap i t1 t2) (hbig : sysModules < h₀.objs.size)
    (h : ∀ d o h' tk, Fr h₀ L h' m → News h₀ L h' ((d, o) :: all) → (∀ p ∈ all, p.1 < d) → (d == sysModules) = false → o.IsDictOf knd [(k, v)] → Q (.ref d) { s with heap := h', toks := tk }) :
    wpAny (model prog w) A (call (.type "dict") [.ref (i + 4)]) Q E s := by
  refine callType_codes (Q₁ := fun obj s₁ => obj = .ref s.heap.objs.size ∧ s₁ = { s with heap := s.heap.push { cls := .type "dict", data := .dict #[] } }) PySem.F.kt_called_dict (PySem.F.kt_typeCall_dict_1 _) PySem.F.entry_dict_init (kt_code_dict_new _ ⟨rfl, rfl⟩) ?_
  rintro obj s₁ ⟨rfl, rfl⟩
  have hnew : (s.heap.push { cls := .type "dict", data := .dict #[] }).DictOf knd s.heap.objs.size [] := Heap.DictOf.new s.heap
  refine ⟨hnew.typeIs, PySem.F.args_dict_init_2 _ _, ?_⟩
  have hz := Heap.get?_push_of_some (h := s.heap) { cls := .type "dict", data := .dict #[] } Z.z
  unfold Builtin.«dict.__init__»
  refine wpAny_bind ?_
  unfold Builtin.Dict.selfAndRest
  refine wpAny_bind (wpAny_notOrdered_dict hnew.typeIs ?_)
  show wpAny _ _ (pure (s.heap.objs.size, [Value.ref (i + 4)])) _ _ _
  refine wpAny_pure ?_
  show wpAny _ _ (Builtin.Dict.updateFrom "dict.__init__" s.heap.objs.size (.ref (i + 4)) [] .none) _ _ _
  unfold Builtin.Dict.updateFrom
  refine wpAny_bind (wpAny_typeOf (T := "zip") ⟨_, hz, rfl⟩ ?_)
  rw [if_pos (by decide)]
  refine wpAny_bind (ml_zip_miss hz hh fun g1 tk1 up1 => ?_)
  rw [if_pos (by rfl)]
  refine wpAny_bind (wpAny_rule (wpAny_bind (wpAny_pyIter_zip (up1 _ _ hz) ?_)))
  refine wpAny_pure ⟨plainId_quiet ml_plain_update_loop _, ?_⟩
  refine codeAny_builtin ml_entry_update_loop ?_
  rw [Around.under_plainId ml_plain_update_loop _]
  unfold Builtin.«dict.update.loop»
  dsimp only at up1 ⊢
  have sz : s.heap.objs.size > i + 4 := Heap.lt_size Z.z
  have lt1 : @LT.lt Nat _ t1 i := lt _ m1
  have lt2 : @LT.lt Nat _ t2 i := lt _ m2
  have up : ∀ c o, s.heap.get? c = some o → g1.get? c = some o := fun c o e => up1 c o (Heap.get?_push_of_some _ e)
  have tk1' : g1.IsTuple t1 #[key] := ⟨_, up _ _ (N _ m1).1, rfl, n1, rfl⟩
  have tk2' : g1.IsTuple t2 #[v] := ⟨_, up _ _ (N _ m2).1, rfl, n2, rfl⟩
  refine wpAny_bind (ml_zip_item (z := i + 4) (TI := i + 2) (TO := i + 3) (i1 := i) (i2 := i + 1) (t1 := t1) (t2 := t2) (x := key) (y := v) (by walk_at "m:ne") (by walk_at "m:ne") (by walk_at "m:ne") (by walk_at "m:ne") (by walk_at "m:ne") (by walk_at "m:ne") (by walk_at "m:ne") (by walk_at "m:ne") (by walk_at "m:ne") (by walk_at "m:ne") (by walk_at "m:ne") (by walk_at "m:ne") (by walk_at "m:ne") (by walk_at "m:ne") (by walk_at "m:ne") (by walk_at "m:ne") (by walk_at "m:ne") (by walk_at "m:ne") (up _ _ Z.z) (up _ _ Z.ti) (up _ _ Z.to) (up _ _ Z.i1) (up _ _ Z.i2) tk1' tk2' rfl rfl fun g2 z2 i12 hT2 up2 => ?_)
  dsimp only at hT2 z2 ⊢
  have szT : g1.objs.size > s.heap.objs.size := by
    have := Heap.lt_size (up1 _ _ (Heap.get?_push_size s.heap (o := { cls := .type "dict", data := .dict #[] }) rfl)); exact this
  refine wpAny_bind (wpAny_holding ?_)
  refine wpAny_bind (wpAny_tryCatch ?_)
  unfold Builtin.Dict.pairItems
  refine wpAny_bind (wpAny_typeOf (T := "tuple") ⟨_, hT2, rfl⟩ ?_)
  rw [if_pos (by decide)]
  refine wpAny_bind (wpAny_seqItems hT2 rfl ?_)
  refine wpAny_pure ?_
  show wpAny _ _ (holding [key, v] (dictSet s.heap.objs.size key v)) _ _ _
  refine wpAny_holding ?_
  have hdict2 : g2.DictOf knd s.heap.objs.size [] := by
    obtain ⟨o, es, ep, ho, r⟩ := hnew
    exact ⟨o, es, ep, up2 _ _ (by walk_at "m:ne") (by walk_at "m:ne") (by walk_at "m:ne") (by walk_at "m:ne") (up1 _ _ ho), r⟩
  refine wpAny_dictSet_pairs (knd := knd) (k := k) hkey hdict2 (fun g3 hd3 hs3 => ?_) (by simp)
  refine wpAny_pure ⟨plainId_quiet ml_plain_update_loop _, ?_⟩
  refine codeAny_builtin ml_entry_update_loop ?_
  rw [Around.under_plainId ml_plain_update_loop _]
  unfold Builtin.«dict.update.loop»
  dsimp only
  have k3 : ∀ c, c ≠ s.heap.objs.size → g3.get? c = g2.get? c := fun c hc => hs3.2 c hc
  refine wpAny_bind (ml_zip_end (z := i + 4) (i1 := i) (i2 := i + 1) (t1 := t1) (TI := i + 2) (TO := i + 3) (T := g1.objs.size) (xs := #[key]) hh (by walk_at "m:ne") (by walk_at "m:ne") (by walk_at "m:ne") ((k3 _ (by walk_at "m:ne")).trans z2) ((k3 _ (by walk_at "m:ne")).trans (up2 _ _ (by walk_at "m:ne") (by walk_at "m:ne") (by walk_at "m:ne") (by walk_at "m:ne") (up _ _ Z.ti))) ((k3 _ (by walk_at "m:ne")).trans hT2)
    ((k3 _ (by walk_at "m:ne")).trans i12) (by obtain ⟨o, ho, r⟩ := tk1'; exact ⟨o, (k3 _ (by walk_at "m:ne")).trans (up2 _ _ (by walk_at "m:ne") (by walk_at "m:ne") (by walk_at "m:ne") (by walk_at "m:ne") ho), r⟩) rfl fun g4 up4 => ?_)
  show wpAny _ _ (Builtin.Dict.addKeywords s.heap.objs.size [] >>= _) _ _ _
  refine wpAny_bind (wpAny_pure (wpAny_pure ⟨rfl, ?_⟩))
  obtain ⟨o, ho, hdo⟩ := Heap.dictOf_iff.mp hd3
  have fin : ∀ c o, @LT.lt Nat _ c i → s.heap.get? c = some o → g4.get? c = some o := fun c o hc e =>
    up4 _ _ (by walk_at "m:ne") (by walk_at "m:ne") ((k3 _ (by walk_at "m:ne")).trans (up2 _ _ (by walk_at "m:ne") (by walk_at "m:ne") (by walk_at "m:ne") (by walk_at "m:ne") (up _ _ e)))
  have hD4 : g4.get? s.heap.objs.size = some o := up4 _ _ (by walk_at "m:ne") (by walk_at "m:ne") ho
  have F4 : Fr h₀ L g4 m := ⟨F.ns.at fun o e => fin _ _ hL e, fun b o e => fin _ _ (Nat.lt_trans (Nat.lt_of_lt_of_le (Heap.lt_size e) F.above) hL) (F.keep b o e), F.above⟩
  have hne0 : h₀.get? s.heap.objs.size = none := F.fresh
  exact h _ o g4 _ F4 (fun p hp => by
    rcases List.mem_cons.mp hp with rfl | hp
    · exact ⟨hD4, Nat.ne_of_gt (Nat.lt_trans hL (by walk_at "m:ne")), hne0⟩
    · exact ⟨fin _ _ (lt p hp) (N p hp).1, (N p hp).2⟩) (fun p hp => Nat.lt_trans (lt p hp) (by walk_at "m:ne")) (F.notModules hbig) hdo
end
end Mine
end SL10
/-! L14 -/
section SL14
open PySem.Spec PySem.Calls
namespace Mine
section
variable {M : Model} {A : Around} {E : Value → Shared → Prop} {s : Shared} {h₀ : Heap} {L a c P : Addr} {m mg mb : Str → Option Value} {cn : Str} {cs : Scope} {ccd : Value} {cl : List (Str × Addr)} {news X : List (Addr × Obj)} {g : Obj → List (Addr × Obj)}
  {p : Program} {loose : List Str} {mean : ExcName → Option Value} {name qual : Str} {params : Arguments} {body : List Stmt} {scope : Scope} {pos : Pos} {firstLine : Nat} {clos : List (Str × Addr)} {st : Option Addr}
theorem UpdF.sub {d : Addr} {o : Obj} {l : List (Addr × Obj)} {g : Obj → List (Addr × Obj)} (U : UpdF d o l g) : ∀ p ∈ g o, p ∈ l := by
  induction U with
  | head _ => exact fun _ h => h
  | tail _ _ ih =>
    intro p hp
    rcases List.mem_cons.mp hp with rfl | hp
    · exact .head _
    · exact .tail _ (ih p hp)
/-- a def in a body is made, whether its code is made already or not -/
theorem nest_st {Q : Value → Shared → Prop} (F : Fr h₀ L s.heap m) (N : News h₀ L s.heap news) (T : Top p loose mean mg mb h₀) (C : CodeHd h₀ c P) (hcd : ccd = .ref c) (U : UpdF P (tabOf pos.line pos.col st) news g) (hT : TabOk qual X st) (hX : ∀ o, ∀ p ∈ X, p ∈ g o)
    (hcl : closureFor scope (envX cn cs L a ccd cl) = pure clos)
    (h : ∀ f c' oc vs t ctv doc tlc h' tk, Fr h₀ L h' m →
      News h₀ L h' ((f, fnMade name qual params body scope clos doc ((mg "__name__").getD .none) c' ctv) :: (tlc ++ g (tabOf pos.line pos.col (some c')))) →
      oc.data = .fields vs → vs[1]? = some (.str qual t) → (c', oc) ∈ tlc ++ X → (∀ q ∈ news, ∀ p ∈ tlc, q.1 < p.1) → (∀ q ∈ news, q.1 < f) → (∀ q ∈ tlc, q.1 < f) → Q (.ref f) { s with heap := h', toks := tk }) :
    wpAny M A (makeFunction name qual params (.stmts body) scope (envX cn cs L a ccd cl) [] [] [] pos firstLine) Q E s := by
  cases st with
  | none =>
    refine nest_K (ps := #[]) (qual := qual) F N T C hcd U ?tt ?na hcl ?_
    case tt => kn_triples
    case na => rfl
    intro f c' oc vs t ctv doc h' tk F' N' d1 d2 l1 l2
    exact h f c' oc vs t ctv doc [(c', oc)] h' tk F' N' d1 d2 (.head _) (fun q hq p hp => by rw [List.mem_singleton.mp hp]; exact l1 q hq) (fun q hq => Nat.lt_trans (l1 q hq) l2) (fun q hq => by rw [List.mem_singleton.mp hq]; exact l2)
  | some c' =>
    obtain ⟨oc, vs, t, hm, d1, d2⟩ := hT
    refine nestHit_K (ps := #[rawInt pos.line, rawInt pos.col, .ref c']) (qual := qual) (c' := c') F N T C hcd (U.split.elim fun pre x => x.elim fun post x => by rw [x.1]; simp [tabOf]) ?tt ?na hcl ?_
    case tt => kn_triples
    case na => simp [codeAmong, rawInt]
    intro f ctv doc h' tk F' N' l1
    exact h f c' oc vs t ctv doc [] h' tk F' (nsub N' (fun p hp => by
      rcases List.mem_cons.mp hp with rfl | hp
      · exact .head _
      · exact .tail _ (UpdF.sub U p hp))) d1 d2 hm (fun _ _ _ h => nomatch h) l1 (fun _ h => nomatch h)
end
end Mine
end SL14
/-! P7 -/
section SP7
open PySem.Spec PySem.Calls
namespace Mine
/-- what R holds, of its own region and what it is made with -/
noncomputable def fieldOf (inner : Ty) (r : Str) (u : Ty) : Ty := Ty.subst (Str.ofString "T") u (Ty.mapR (fun x => if x = Str.ofString "'a" then r else x) (.rf (Str.ofString "'a") (.adtR (Str.ofString "'a") inner)))
theorem Ty.mapR_depth (g : Str → Str) (t : Ty) : (t.mapR g).depth = t.depth := by
  induction t <;> simp_all [Ty.mapR, Ty.depth]
structure FieldD where
  r : Str
  u : Ty
  inner : Ty
  st : Option Addr
structure FieldIn (w : World) (all news : List (Addr × Obj)) (vs : List Value) (d : FieldD) : Prop where
  one : ∃ v tk x, vs = [v, .int 0 tk, x] ∧ TyIn news v (.adtR d.r d.u) ∧ WorldIn w news x d.inner
  tab : TabOk (Str.ofString "fields_of.<locals>.put_in") all d.st
theorem offT {I C D DT : Addr} {oI oC oD tup : Obj} {base X3 X4 tl2 tl3 : List (Addr × Obj)} (off : LCg.Off3 I C D base) (hl2 : ∀ q ∈ (I, oI) :: (C, oC) :: (D, oD) :: base, ∀ p ∈ tl2, q.1 < p.1) (hl3 : ∀ q ∈ (I, oI) :: (C, oC) :: (D, oD) :: X3, ∀ p ∈ tl3, q.1 < p.1) (lT : AllLt DT ((I, oI) :: (C, oC) :: (D, oD) :: X4)) :
    LCg.Off3 I C D (base ++ (tl2 ++ (tl3 ++ [(DT, tup)]))) := LCg.Off3.of fun p hp => by
  rcases List.mem_append.mp hp with hp | hp
  · exact off.mem p hp
  · rcases List.mem_append.mp hp with hp | hp
    · exact ⟨Nat.ne_of_gt (hl2 _ (.head _) p hp), Nat.ne_of_gt (hl2 _ (.tail _ (.head _)) p hp), Nat.ne_of_gt (hl2 _ (.tail _ (.tail _ (.head _))) p hp)⟩
    · rcases List.mem_append.mp hp with hp | hp
      · exact ⟨Nat.ne_of_gt (hl3 _ (.head _) p hp), Nat.ne_of_gt (hl3 _ (.tail _ (.head _)) p hp), Nat.ne_of_gt (hl3 _ (.tail _ (.tail _ (.head _))) p hp)⟩
      · rw [List.mem_singleton.mp hp]
        exact ⟨Nat.ne_of_gt lT.1, Nat.ne_of_gt lT.2.1, Nat.ne_of_gt lT.2.2.1⟩
theorem ordF {T0 T1 : Obj} {X tlc tl2 tl3 : List (Addr × Obj)} {q x2 x1 c3 c2 c1 tp : Addr × Obj} (hq : ∀ a ∈ (101, T0) :: X, a.1 < q.1) (h2 : ∀ a ∈ (101, T0) :: X, a.1 < x2.1) (h1 : ∀ a ∈ (101, T0) :: X, a.1 < x1.1)
    (hc3 : ∀ a ∈ (101, T0) :: X, a.1 < c3.1) (hc2 : ∀ a ∈ (101, T0) :: X, a.1 < c2.1) (hc1 : ∀ a ∈ (101, T0) :: X, a.1 < c1.1) (hlc : ∀ a ∈ (101, T0) :: X, ∀ p ∈ tlc, a.1 < p.1) (hl2 : ∀ a ∈ (101, T1) :: X, ∀ p ∈ tl2, a.1 < p.1) (hl3 : ∀ a ∈ (101, T1) :: X, ∀ p ∈ tl3, a.1 < p.1) (ht : ∀ a ∈ (101, T1) :: X, a.1 < tp.1) :
    ∀ a ∈ (101, T0) :: X, ∀ p ∈ q :: x2 :: x1 :: c3 :: c2 :: c1 :: (tlc ++ (tl2 ++ (tl3 ++ [tp]))), a.1 < p.1 := by
  intro a ha p hp
  obtain ⟨b, hb, e⟩ : ∃ b ∈ (101, T1) :: X, b.1 = a.1 := by
    rcases List.mem_cons.mp ha with rfl | ha
    · exact ⟨_, .head _, rfl⟩
    · exact ⟨a, .tail _ ha, rfl⟩
  simp only [List.mem_cons, List.mem_append, List.not_mem_nil, or_false] at hp
  rcases hp with rfl | rfl | rfl | rfl | rfl | rfl | hp | hp | hp | rfl
  · exact hq a ha
  · exact h2 a ha
  · exact h1 a ha
  · exact hc3 a ha
  · exact hc2 a ha
  · exact hc1 a ha
  · exact hlc a ha p hp
  · exact e ▸ hl2 b hb p hp
  · exact e ▸ hl3 b hb p hp
  · exact e ▸ ht b hb
/-- the contract of fields_of: the list that it gives lies aside of what else is new -/
noncomputable def TellsF (Hyp : Heap → Prop) (prog : Program) (w : World) (K : Frag) (p : Program) (loose : List Str) (mean : ExcName → Option Value) (mg mb : Str → Option Value) (f : Addr) (d : FieldD) : Prop :=
  ∀ (dp un : Nat) (gd : Option (List Code)) (cn : Str) (cs : Scope) (a : Addr) (ccd : Value) (cl : List (Str × Addr)) (outer : List Env) (A₀ : Around) (base h₀ : Heap) (L : Addr) (m : Str → Option Value) (ext news : List (Addr × Obj)) (s : Shared) (vs : List Value)
    (Q E : Value → Shared → Prop),
    Below A₀ base outer h₀ → Hyp base → Fr h₀ L s.heap m → K.In h₀ → News h₀ L s.heap ((101, tabOf 72 4 d.st) :: (ext ++ news)) → (∀ p ∈ ext ++ news, p.1 ≠ 101) → Top p loose mean mg mb h₀ → cs.kind = .function → FieldIn w (ext ++ news) news vs d → dp + (d.inner.depth + 20) < recursionLimit → un + 8 * (d.inner.depth + 20) < cLine →
    (∀ c l n pr k n' v tl h' tk', Fr h₀ L h' m → News h₀ L h' ((l, listOf #[.ref pr] n) :: (101, tabOf 72 4 (some c)) :: (ext ++ (news ++ tl))) → (∀ q ∈ (101, tabOf 72 4 d.st) :: (ext ++ news), ∀ p ∈ tl, q.1 < p.1) →
      TabOk (Str.ofString "fields_of.<locals>.put_in") (ext ++ (news ++ tl)) (some c) → (pr, tupO [.str (Str.ofString "n") k, v] n') ∈ news ++ tl → TyIn (news ++ tl) v (fieldOf d.inner d.r d.u) → Q (.ref l) { s with heap := h', toks := tk' }) →
    wpAny (model prog w) (ktrTop dp un gd cn cs L a ccd cl outer) (call (.ref f) vs) Q E s
noncomputable abbrev HypF (h : Heap) : Prop := CodeHd h 103 101
set_option hygiene false in
local macro_rules | `(tactic| walk_at "execs cons") => `(tactic| (k_here; (try k_gentoks); (try k_fold); (with_reducible refine execsN (s := s) ?_)))
local macro_rules | `(tactic| walk_at "m:mem") => `(tactic| first | assumption | exact List.Mem.head _ | (with_reducible refine memTail ?_; walk_at "m:mem") | (with_reducible refine memR ?_; walk_at "m:mem") | (with_reducible refine memL ?_; walk_at "m:mem"))
local macro_rules | `(tactic| k_mem) => `(tactic| walk_at "m:mem")
theorem cellA {L b : Addr} {o : Obj} {l : List (Addr × Obj)} (h : b < L ∧ AllLt L l) : ∀ p ∈ (b, o) :: l, p.1 ≠ L + 1 :=
  List.forall_mem_cons.mpr ⟨Nat.ne_of_lt (Nat.lt_succ_of_lt h.1), fun p hp => Nat.ne_of_lt (Nat.lt_succ_of_lt (ktn_ltOf h.2 p hp))⟩
theorem cellB {L b : Addr} {o o1 : Obj} {l : List (Addr × Obj)} (h : b < L ∧ AllLt L l) : ∀ p ∈ (L + 1, o1) :: (b, o) :: l, p.1 ≠ L + 1 + 1 :=
  List.forall_mem_cons.mpr ⟨Nat.ne_of_lt (Nat.lt_succ_self _), List.forall_mem_cons.mpr ⟨Nat.ne_of_lt (Nat.lt_succ_of_lt (Nat.lt_succ_of_lt h.1)), fun p hp => Nat.ne_of_lt (Nat.lt_succ_of_lt (Nat.lt_succ_of_lt (ktn_ltOf h.2 p hp)))⟩⟩
theorem cellC {L b : Addr} {o o1 o2 : Obj} {l : List (Addr × Obj)} (h : b < L ∧ AllLt L l) : ∀ p ∈ (L + 1 + 1, o2) :: (L + 1, o1) :: (b, o) :: l, p.1 ≠ L + 1 + 1 + 1 :=
  List.forall_mem_cons.mpr ⟨Nat.ne_of_lt (Nat.lt_succ_self _), List.forall_mem_cons.mpr ⟨Nat.ne_of_lt (Nat.lt_succ_of_lt (Nat.lt_succ_self _)), List.forall_mem_cons.mpr ⟨Nat.ne_of_lt (Nat.lt_succ_of_lt (Nat.lt_succ_of_lt (Nat.lt_succ_of_lt h.1))), fun p hp => Nat.ne_of_lt (Nat.lt_succ_of_lt (Nat.lt_succ_of_lt (Nat.lt_succ_of_lt (ktn_ltOf h.2 p hp))))⟩⟩⟩
local macro_rules | `(tactic| k_all) => `(tactic| first | assumption | exact cellA (by assumption) | exact cellB (by assumption) | exact cellC (by assumption))
local macro_rules | `(tactic| walk_at "call ref") => `(tactic| (k_here; (with_reducible show wpAny _ _ (call (Value.ref _) _) _ _ _); refine Halt.go ?_))
local macro_rules | `(tactic| walk_at "eval Name") => `(tactic| (k_here; (with_reducible show wpAny _ _ (eval (Expr.Name (Str.ofString "regions") _) (envX _ _ _ _ _ [_])) _ _ _); refine Halt.go ?_))
local macro_rules | `(tactic| walk_at "call builtin:list.append") => `(tactic| (k_here; refine Halt.go ?_))
local macro_rules | `(tactic| walk_at "m:el") => `(tactic| with_reducible first | exact memHead | (refine memTail ?_; walk_at "m:el") | (refine memR ?_; walk_at "m:el") | (refine memL ?_; walk_at "m:el"))
local macro_rules | `(tactic| walk_at "m:in") => `(tactic| with_reducible first | assumption | exact subRefl | exact subNil | (refine subCons ?_ ?_; (walk_at "m:el"); (walk_at "m:in")) | (refine subApp ?_ ?_; (walk_at "m:in"); (walk_at "m:in")) | (refine subTail ?_; walk_at "m:in") | (refine subR ?_; walk_at "m:in") | (refine subL ?_; walk_at "m:in"))
local macro_rules | `(tactic| walk_at "subscriptTail") => `(tactic| (k_here; (with_reducible show wpAny _ _ (subscriptTail _ _ (Value.ref _) (Value.str _ _)) _ _ _); refine Halt.go ?_))
local macro_rules | `(tactic| walk_at "subscriptTail") => `(tactic| (k_here; (with_reducible show wpAny _ _ (subscriptTail _ _ (Value.ref _) (Value.int 0 _)) _ _ _); k_dflt (refine item0L (by k_asm) (by k_mem) ?_)))
local macro_rules | `(tactic| walk_at "getMethod ref") => `(tactic| (k_here; refine Halt.go ?_))
local macro_rules | `(tactic| walk_at "call builtin:dict.get") => `(tactic| (k_here; refine Halt.go ?_))
local macro_rules | `(tactic| walk_at "eval ListComp") => `(tactic| (k_here; refine Halt.go ?_))
local macro_rules | `(tactic| walk_at "call type:zip") => `(tactic| (k_here; refine Halt.go ?_))
local macro_rules | `(tactic| walk_at "call type:dict") => `(tactic| (k_here; refine Halt.go ?_))
set_option maxHeartbeats 2500000 in
theorem fields_of_tells (w : World) (p : Program) (loose : List Str) (mean : ExcName → Option Value) (mg mb : Str → Option Value) (d : FieldD) :
    TellsF HypF PySem.Challenge.rw_xw0159_01.row.prog w (hd.heap_1 w.params) p loose mean mg mb 104 d := by
  k_fill
  obtain ⟨r, u, inner, st⟩ := d
  unfold TellsF
  intro dp un gd cn cs a ccd cl outer A₀ base h₀ L m ext news s vs Q E B H F X N hoff' T hk hR hdp hun hret
  obtain ⟨⟨v, tk, x, rfl, hR, hW⟩, hT⟩ := hR
  dsimp only at hR hW hT
  dsimp only at hdp hun N hret
  have hc := cLine_is
  have hR0 := hR
  cases hR
  rename_i ta tb tc tv tk1 tk2 tk3 tn1 tn2 tn3 hta htv htc htb
  cases hW
  rename_i wx wdx wda wr wdr wtr wtp wlv wrow wlf wpr woda wheld wn1 wn2 wn3 wn4 wn5 wn6 wn7 wn8 wn9 wk1 wk2 wk3 wk4 wk5 wk6 wk7 wk8 wk9 wk10 wk11 wk12 wk13 wk14 wk15 wk16 wk17 wk18 wk19 wk20 wu1 wu2 wu3 wu4 wu5 wu6 wu7 wv1 wv2 wv3 wv4 hx hdxS hdaS hdx hda hdaD hr hdr htr htp hlv hrow hlf hpr hheld
  · refine wpAny_call ?_
    k_dflt (refine' code_defC (binds := [(Str.ofString "told", .ref ta), (Str.ofString "variant", .int 0 tk), (Str.ofString "world", .ref wx)]) ?k1 ?k2 ?k3 ?k4 ?k5 ?kA ?kF ?kK ?k6 ?k7 ?k8 ?k9 ?kB ?kD ?_ ?c2 ?c3 ?c4; (case kA => exact rfl); (case kF => exact rfl); (case kK => assumption); (case k1 => k_asm); (case k2 => k_asm); (case k3 => k_asm); (case k4 => k_asm); (case k5 => k_asm); (case k6 => k_is); (case k7 => k_is); (case k8 => ktr_room); (case k9 => exact BindsTo.of_eq rfl); (case kB => exact rfl); (case kD => decide +kernel); (case c2 => exact rfl); (case c3 => exact rfl); (case c4 => exact rfl); k_whole; intro g' L' h' tk' cells' FG' F' N' Y' B' X' T' l1; (try k_lt l1); k_cells Y'; (try simp only [List.cons_append, List.nil_append] at N'); (try dsimp only); (try k_lift B'); (try k_fold))
    (try (((show let Mo0 := model _ _; let en0 : Env := _; let Ar0 := Around.deeper _ en0; wpAny Mo0 Ar0 (execs _ en0) _ _ _); intro Mo0 en0 Ar0; skip)))
    k_steps
    refine Halt.mk ?_
    k_dflt (refine kba_turn (value' := Expr.Name (Str.ofString "_") ⟨0, 0, 0, 0⟩) (fun _ => rfl) ?_)
    k_dflt (refine kda_item (knd := PySem.strKind _ _) (by k_asm) (by k_mem) hdaD (strKind_is _ _ _ _) (by rw [valueAt_one, if_pos rfl]) ?_)
    k_steps
    refine Halt.mk ?_
    k_dflt (refine ml_call_zip (by k_asm) (by k_asm) (t1 := _) (t2 := _) (by k_mem) (by k_mem) ?_)
    intro i1 h1 F1 N1 lt1 hL1 Z1
    k_steps
    refine Halt.mk ?_
    k_dflt (refine ml_call_dict_zip (knd := PySem.strKind _ _) (by rfl) (strKind_is _ _ _ _) F1 N1 (by k_mem) (by k_mem) lt1 hL1 Z1 (modules_low (Top.nolimit (by k_asm))) ?_)
    intro d1 od1 h2 tk2 F2 N2 lt2 hs2 hD2
    have ltk := lt2
    k_lt ltk
    k_steps
    refine Halt.mk ?_
    k_dflt (refine ml_call_zip (by k_asm) (by k_asm) (t1 := _) (t2 := _) (by k_mem) (by k_mem) ?_)
    intro i2 h3 F3 N3 lt3 hL3 Z3
    k_steps
    refine Halt.mk ?_
    k_dflt (refine ml_call_dict_zip (knd := PySem.strKind _ _) (by rfl) (strKind_is _ _ _ _) F3 N3 (by k_mem) (by k_mem) lt3 hL3 Z3 (modules_low (Top.nolimit (by k_asm))) ?_)
    intro d2 od2 h4 tk4 F4 N4 lt4 hs4 hD4
    have ltk4 := lt4
    k_lt ltk4
    k_steps
    rename_i oReg0 oPut oTy0 hReg0 hPut hTy0 tkA tkB h5a h5 oTy hTy tkC h6 oReg F6 N6 hReg
    k_here
    refine nestDef_K ?d0 ?k0 ?a0 ?_
    case d0 => exact rfl
    case k0 => exact rfl
    case a0 => exact rfl
    refine' nest_st (qual := Str.ofString "fields_of.<locals>.put_in") (st := st) (X := ext ++ news) ?F ?N ?T ?C ?cd ?U ?hT ?hX ?cl ?_
    case F => k_asm
    case N => k_asm
    case T => k_asm
    case cd => exact rfl
    case C => kn_code
    case U => exact .tail (Nat.ne_of_gt (by omega)) (.tail (Nat.ne_of_gt (by omega)) (.tail (Nat.ne_of_gt (by omega)) (.tail (Nat.ne_of_gt (by omega)) (.tail (Nat.ne_of_gt (by omega)) (.head hoff')))))
    case hT => exact hT
    case hX => exact fun o => by walk_at "m:in"
    case cl => exact rfl
    intro f' c' oc' vs' t' ct' dc' tlc h' tk' F' N' d1' d2' hcm hlc hf1 hf2
    refine pull1 N' fun q hq N2 => ?_
    have chg : ∀ d, TellsM PySem.Challenge.rw_xw0159_01.row.prog w (hd.heap_1 w.params) p loose mean mg mb f' (chgT (fun _ : Unit => []) (fun _ _ => ()) (fun x => if x = Str.ofString "'a" then r else x) (fun all => q ∈ all ∧ (c', oc') ∈ all ∧ (L' + 1 + 1 + 1, oReg) ∈ all ∧ (d2, od2) ∈ all) (fun _ => 0) 8000) d := by
      clear hret N N' N2 hun hdp hoff' l1 F' F X H B T
      (try clear N5); (try clear N6); (try clear F5); (try clear F6); (try clear F1); (try clear F2); (try clear F3); (try clear F4); (try clear N1); (try clear N3); (try clear N4)
      intro d
      obtain ⟨_, r0, tk0⟩ := d
      unfold TellsM
      intro dp un gd cn cs a ccd cl outer A₀ base h₀ L m ext news s vs Q E B F X N hoff T hk hR hdp hun hret
      obtain ⟨hvs, ⟨hf, hcode, hcell, hdict⟩, hlen⟩ := hR
      dsimp only at hvs hlen
      subst hvs
      rw [hq] at hf
      dsimp only [chgT] at hdp hun N hoff hret
      refine wpAny_call ?_
      k_dflt (refine' code_nest ?k1 ?k2 ?k3 ?k4 ?k5 ?kA ?kF ?kK ?k6 ?k7 ?k8 ?k9 ?kB ?_ ?c2 ?c3 ?c4 ?c5)
      case kA => exact rfl
      case kF => exact rfl
      case kK => assumption
      case k1 => k_asm
      case k2 => k_asm
      case k3 => k_asm
      case k4 => k_asm
      case k5 => k_asm
      case k6 => exact memR hf
      case k7 => exact codeRec_news (by k_asm) (memR hcode) (by assumption) (by assumption)
      case k8 => ktr_room
      case k9 => exact BindsTo.of_eq rfl
      case c5 => decide
      case kB => exact locs rfl
      case c2 => exact rfl
      case c3 => exact rfl
      case c4 => exact rfl
      k_whole
      intro g' L' h' FG' F' N' B' X' T'
      (try dsimp only)
      (try k_lift B')
      (try k_fold)
      k_steps
      refine Halt.mk ?_
      k_dflt (refine nameX_F (o := oReg) (v := .ref d2) N' rfl (memR hcell) hReg ?_)
      k_steps
      refine Halt.mk ?_
      k_dflt (refine kdg_method (knd := PySem.strKind _ _) (by k_asm) (memR hdict) hD4 ?_)
      k_steps
      refine Halt.mk ?_
      k_dflt (refine kdg_get2 (knd := PySem.strKind _ _) (by k_asm) (memR hdict) hD4 hs4 (strKind_is _ _ _ _) (if r0 = Str.ofString "'a" then some (.str r tk3) else none) valueAt_one ?_)
      by_cases hyx : r0 = Str.ofString "'a"
      · simp only [hyx, if_true, Option.getD]
        k_steps
        exact hret _ [] [] _ _ rfl (by k_asm) (nsub (by k_asm) (by walk_at "m:in")) (fun _ _ _ h => nomatch h) ⟨_, by simp only [hyx, if_true]; rfl⟩
      · simp only [hyx, if_false, Option.getD]
        k_steps
        exact hret _ [] [] _ _ rfl (by k_asm) (nsub (by k_asm) (by walk_at "m:in")) (fun _ _ _ h => nomatch h) ⟨_, by simp only [hyx, if_false]; rfl⟩
    replace N2 : News g' L' h' (q :: (d2, od2) :: (d1, od1) :: (L' + 1 + 1 + 1, oReg) :: (L' + 1 + 1, oPut) :: (L' + 1, oTy) :: (101, tabOf 72 4 (some c')) :: (tlc ++ (ext ++ news))) := nsub N2 (by walk_at "m:in")
    clear N'
    have e2 : q.1 ≠ L' + 1 + 1 := by rw [hq]; exact Nat.ne_of_gt (hf1 (L' + 1 + 1, oPut) (by walk_at "m:el"))
    have e3 : ∀ p ∈ (L' + 1, oTy) :: (101, tabOf 72 4 (some c')) :: (tlc ++ (ext ++ news)), p.1 ≠ L' + 1 + 1 := by
      intro p hp
      rcases List.mem_cons.mp hp with rfl | hp
      · exact Nat.ne_of_lt (Nat.lt_succ_self _)
      · rcases List.mem_cons.mp hp with rfl | hp
        · exact Nat.ne_of_lt (by omega)
        · rcases List.mem_append.mp hp with hp | hp
          · exact Nat.ne_of_gt (hlc (L' + 1 + 1, oPut) (by walk_at "m:el") p hp)
          · exact cellB (o := oTy) (o1 := oTy) l1 p (.tail _ (.tail _ hp))
    k_dflt (refine' storeX_C (c := L' + 1 + 1) (o := oPut) ?F ?N ?c ?U ?d ?_ ?a ?b)
    case a => rfl
    case b => rfl
    case F => k_asm
    case N => k_asm
    case c => rfl
    case U => exact .tail e2 (.tail (Nat.ne_of_gt (by omega)) (.tail (Nat.ne_of_gt (by omega)) (.tail (Nat.ne_of_gt (Nat.lt_succ_self _)) (.head e3))))
    case d => exact hPut
    k_whole
    intro h7 oPu2 F7 N7 hPu2
    (try dsimp only at N7)
    clear N2
    k_steps
    refine Halt.mk ?_
    k_dflt (refine LCp.ListComp_P (F₀ := by k_asm) (by with_unfolding_all rfl) (by decide) (by rfl) (by decide) (by rfl) (by rfl) (by decide) ?_)
    k_steps
    refine Halt.mk ?_
    refine wpAny_call ?_
    k_dflt (refine' code_def ?k1 ?k2 ?k3 ?k4 ?k5 ?kA ?kF ?kK ?k6 ?k7 ?k8 ?k9 ?kB ?_ ?c2 ?c3 ?c4 ?c5; (case kA => exact rfl); (case kF => exact rfl); (case kK => exact rfl); (case k1 => k_asm); (case k2 => k_asm); (case k3 => k_asm); (case k4 => k_asm); (case k5 => k_asm); (case k6 => k_is); (case k7 => k_is); (case k8 => first | ktr_room | (dsimp only [Ar0, Around.deeper, ktrTop] at hdp ⊢; omega) | (show _ < recursionLimit; simp only [Ar0, Around.deeper, ktrTop] at hdp ⊢; omega)); (case k9 => exact BindsTo.of_eq rfl); (case c5 => decide); (case kB => exact locs rfl); (case c2 => exact rfl); (case c3 => exact rfl); (case c4 => exact rfl); k_whole; intro g9 L9 h9 FG9 F9 N9 B9 X9 T9; (try dsimp only); (try k_fold))
    (try (((show let Mo0 := model _ _; let en0 : Env := _; let Ar0 := Around.deeper _ en0; wpAny Mo0 Ar0 (execs _ en0) _ _ _); intro Mo0 en0 Ar0; skip)))
    k_steps
    refine Halt.mk ?_
    k_dflt (refine kba_turn (value' := Expr.Name (Str.ofString "_") ⟨0, 0, 0, 0⟩) (fun _ => rfl) ?_)
    k_dflt (refine kda_item (knd := PySem.strKind _ _) (by k_asm) (by k_mem) hdaD (strKind_is _ _ _ _) (by rw [valueAt_one, if_pos rfl]) ?_)
    k_steps
    refine Halt.mk ?_
    rename _ ∧ (_ ∧ _) => nec
    rename (_ ∧ _) ∧ _ => offc
    rename News _ _ _ _ => Nc
    rename Fr _ _ _ _ => Fc
    obtain ⟨oc9, od9, fd9, sl9, hf9⟩ : ∃ oc od fd sl, q = (f', (⟨oc, od, .func fd, sl⟩ : Obj)) := ⟨_, _, _, _, hq⟩
    k_dflt (refine' tellsM_use (c := wrT (fun _ : Unit => []) (fun _ _ => ()) (fun x => if x = Str.ofString "'a" then r else x) (fun all => q ∈ all ∧ (c', oc') ∈ all ∧ (L' + 1 + 1 + 1, oReg) ∈ all ∧ (d2, od2) ∈ all) (fun _ => 0) 8000 f') (d := (.rf (Str.ofString "'a") (.adtR (Str.ofString "'a") inner), ())) ?rest news ?k1 ?k2 ?k3 ?k4 ?k5 ?kK (with_regions_tells w p loose mean mg mb _ _ _ _ _ _ ?hlen _ ?hPa ?hClo chg _) ?hP ?hr ?hs ?ho ?kR ?kd ?ku ?_)
    (((case k1 => k_asm); (case k2 => k_asm); (case k3 => k_asm); (case k4 => k_asm); (case k5 => k_asm); (case kK => first | exact rfl | assumption)))
    case hlen => exact fun c v => by omega
    case hPa => exact fun _ _ => rfl
    case hClo => exact fun l l' hs h => ⟨hs _ h.1, hs _ h.2.1, hs _ h.2.2.1, hs _ h.2.2.2⟩
    case hP => exact fun _ h => nomatch h
    case hr => exact subRefl
    case hs => walk_at "m:in"
    case ho => exact fun _ h => nomatch h
    case kd => (dsimp only [ktrTop, wrT, Around.deeper, Ty.depth] at hdp ⊢; omega)
    case ku => (dsimp only [ktrTop, wrT, Around.deeper, Ty.depth] at hun ⊢; omega)
    case kR => exact .mk hheld (by rw [← hf9]; walk_at "m:el") ⟨by walk_at "m:el", memOf (by walk_at "m:in") hcm, by walk_at "m:el", by walk_at "m:el"⟩ (by have h1 := Ty.regs_len inner; simp only [Ty.regs, List.length_cons]; have h2 : recursionLimit = 1000 := rfl; omega)
    intro r2 l2' tl2 h2 tk2 hp2 F2 N2 hl2 ho2
    obtain ⟨c2, hc2, rfl⟩ := hp2
    simp only [List.nil_append, List.cons_append, List.append_assoc] at N2
    k_steps
    refine Halt.mk ?_
    k_dflt (refine' tellsX_use (c := subT PySem.Challenge.rw_xw0159_01.row.prog w) (d := ⟨Ty.mapR (fun x => if x = Str.ofString "'a" then r else x) (.rf (Str.ofString "'a") (.adtR (Str.ofString "'a") inner)), Str.ofString "T", u⟩) (news ++ tl2) ?k1 ?k2 ?k3 ?k4 ?k5 ?kK (substituted_tells w p loose mean mg mb _) ?hs ?kR ?kd ?ku ?_)
    (((case k1 => k_asm); (case k2 => k_asm); (case k3 => k_asm); (case k4 => k_asm); (case k5 => k_asm); (case kK => first | exact rfl | assumption)))
    case hs => walk_at "m:in"
    case kd => (have h1 := Ty.mapR_depth (fun x => if x = Str.ofString "'a" then r else x) (.rf (Str.ofString "'a") (.adtR (Str.ofString "'a") inner)); dsimp only [Ty.depth] at h1; dsimp only [ktrTop, subT, Around.deeper, Ty.depth] at hdp ⊢; omega)
    case ku => (have h1 := Ty.mapR_depth (fun x => if x = Str.ofString "'a" then r else x) (.rf (Str.ofString "'a") (.adtR (Str.ofString "'a") inner)); dsimp only [Ty.depth] at h1; dsimp only [ktrTop, subT, Around.deeper, Ty.depth] at hun ⊢; omega)
    case kR => exact .mk ho2 (by walk_at "m:el") hD2 hs2 (htb.mono (by walk_at "m:in"))
    intro r3 tl3 h3 tk3 F3 N3 hl3 ho3
    simp only [List.nil_append, List.cons_append, List.append_assoc] at N3 ho3
    k_steps
    rename_i DT hT FT NT lT
    have off1 : LCg.Off3 _ _ _ (q :: (d2, od2) :: (d1, od1) :: (L' + 1 + 1 + 1, oReg) :: (L' + 1 + 1, oPu2) :: (L' + 1, oTy) :: (101, tabOf 72 4 (some c')) :: (tlc ++ (ext ++ news))) := offc
    have off2 := offT (DT := DT) (tup := tupO [.str (Str.ofString "n") wk20, r3] 0) off1 hl2 hl3 (X4 := q :: (d2, od2) :: (d1, od1) :: (L' + 1 + 1 + 1, oReg) :: (L' + 1 + 1, oPu2) :: (L' + 1, oTy) :: (101, tabOf 72 4 (some c')) :: (tlc ++ (ext ++ (news ++ (tl2 ++ tl3))))) lT
    simp only [List.cons_append, List.append_assoc] at off2
    (try dsimp only)
    repeat' (k_unfold; (try dsimp only))
    refine compEnd_mk FT (nsub NT (by walk_at "m:in")) off2 (.inr ⟨_, by k_mem, rfl, _, rfl⟩) ?_
    refine LCp.CompRestP.zero ?_
    unfold LCg.FinE
    intro D4 h4 tk4 F4 N4 o4
    simp only [List.nil_append] at N4
    k_steps
    have hc : ∀ k, L' < k → ∀ a ∈ (101, tabOf 72 4 st) :: (ext ++ news), a.1 < k := fun k hk a ha => by
      rcases List.mem_cons.mp ha with rfl | ha
      · exact Nat.lt_trans l1.1 hk
      · exact Nat.lt_trans (ktn_ltOf l1.2 a ha) hk
    exact hret c' D4 1 DT wk20 0 r3 (q :: (d2, od2) :: (d1, od1) :: (L' + 1 + 1 + 1, oReg) :: (L' + 1 + 1, oPu2) :: (L' + 1, oTy) :: (tlc ++ (tl2 ++ (tl3 ++ [(DT, tupO [.str (Str.ofString "n") wk20, r3] 0)])))) _ _ (by k_asm) (nsub (by k_asm) (fun p hp => by
        rcases List.mem_cons.mp hp with rfl | hp
        · exact .head _
        · exact .tail _ (memOf (by walk_at "m:in") hp)))
      (ordF (T1 := tabOf 72 4 (some c')) (by rw [hq]; exact fun a ha => hf1 a (memOf (by walk_at "m:in") ha)) (fun a ha => lt4 a (memOf (by walk_at "m:in") ha)) (fun a ha => lt2 a (memOf (by walk_at "m:in") ha)) (hc _ (Nat.lt_succ_of_lt (Nat.lt_succ_of_lt (Nat.lt_succ_self _)))) (hc _ (Nat.lt_succ_of_lt (Nat.lt_succ_self _))) (hc _ (Nat.lt_succ_self _))
        (fun a ha => hlc a (memOf (by walk_at "m:in") ha)) (fun a ha => hl2 a (memR (memOf (by walk_at "m:in") ha))) (fun a ha => hl3 a (memOf (by walk_at "m:in") ha)) (fun a ha => ktn_ltOf (l := (101, tabOf 72 4 (some c')) :: (tlc ++ (ext ++ (news ++ (tl2 ++ tl3))))) lT.2.2.2.2.2.2.2.2.2 a (memOf (by walk_at "m:in") ha)))
      ⟨oc', vs', t', memOf (by walk_at "m:in") hcm, d1', d2'⟩ (by walk_at "m:el") (ho3.mono (by walk_at "m:in"))
end Mine
end SP7
/-! C1 -/
section SC1
open PySem.Spec PySem.Calls
namespace Mine
theorem compTurn_in (elt target iter target' iter' : Expr) (scope : Scope) (pos : Pos) (it acc : Value) (env : Env) :
    compTurn (.ListComp elt [⟨target, iter, [], 0⟩, ⟨target', iter', [], 0⟩] scope pos) 1 it acc env = (standAt iter'.pos >>= fun _ => pyNext it >>= fun r => match r with
      | none => pure (.done .next)
      | some v => letOwnedTupleGo target' it v >>= fun _ => assign target' env v >>= fun _ =>
        (eval elt env >>= fun x => call (.builtin "list.append") [acc, x] >>= fun _ => pure ()) >>= fun _ =>
          again (.compLoop (.ListComp elt [⟨target, iter, [], 0⟩, ⟨target', iter', [], 0⟩] scope pos) 1 it acc env)) := by rfl
theorem compTurn_out (elt target iter target' iter' : Expr) (scope : Scope) (pos : Pos) (it acc : Value) (env : Env) :
    compTurn (.ListComp elt [⟨target, iter, [], 0⟩, ⟨target', iter', [], 0⟩] scope pos) 0 it acc env = (standAt iter.pos >>= fun _ => pyNext it >>= fun r => match r with
      | none => pure (.done .next)
      | some v => letOwnedTupleGo target it v >>= fun _ => assign target env v >>= fun _ =>
        (eval iter' env >>= fun x => standAt iter'.pos >>= fun _ => foldedSetIterable iter' env x >>= fun x => holding [x] (pyIter x) >>= fun it' =>
          runOwn (.compStart (.ListComp elt [⟨target, iter, [], 0⟩, ⟨target', iter', [], 0⟩] scope pos) 1 it' acc env) env >>= fun _ =>
          again (.compLoop (.ListComp elt [⟨target, iter, [], 0⟩, ⟨target', iter', [], 0⟩] scope pos) 0 it acc env))) := by rfl
section
variable {prog : Program} {w : World} {A : Around} {E : Value → Shared → Prop} {s : Shared} {h₀ : Heap} {L : Addr} {m : Str → Option Value} {env : Env} {R : Result → Shared → Prop}
structure In2J (s : Shared) (I C D T : Addr) (ys its : List Value) (h' : Heap) (i : Nat) (m' : Str → Option Value) : Prop where
  hst : h'.IsTupleIter I T i ∧ h'.IsTuple T its.toArray
  hn : h'.Ns C m'
  hD : h'.get? D = some (LCg.lst (ys ++ its.take i))
  hk : ∀ b o, b ≠ I → b ≠ C → b ≠ D → s.heap.get? b = some o → h'.get? b = some o
inductive In2 (s : Shared) (n : Nat) (J : Heap → Nat → (Str → Option Value) → Prop) (k : Nat) : Shared → Prop
  | mk (h' : Heap) (tk i : Nat) (m' : Str → Option Value) : i ≤ n → k = n + 1 - i → J h' i m' → In2 s n J k { s with heap := h', toks := tk }
theorem inner2 {iter iter' : Expr} {x y : Str} {px py pz : Pos} {scope : Scope} {cl : List (Str × Addr)} {pos : Pos} {I C D T : Addr} {mC : Str → Option Value} {ys its : List Value}
    (hh : A.handled = none) (hkind : scope.kind = .function) (hy : scope.names.lookup y = some .local) (hd : (y == ("__debug__" : Str)) = false)
    (hn : s.heap.Ns C mC) (hD : s.heap.get? D = some (LCg.lst ys)) (hT : s.heap.IsTuple T its.toArray) (hI : s.heap.IsTupleIter I T 0)
    (hIC : I ≠ C) (hID : I ≠ D) (hCD : C ≠ D) (hTI : T ≠ I) (hTC : T ≠ C) (hTD : T ≠ D) (hsz : ys.length + its.length ≤ sizeLine)
    (hR : ∀ h' tk m', h'.Ns C m' → h'.get? D = some (LCg.lst (ys ++ its)) → (∀ b o, b ≠ I → b ≠ C → b ≠ D → s.heap.get? b = some o → h'.get? b = some o) → R (.ok .next) { s with heap := h', toks := tk }) :
    codeAny (model prog w) A (.compLoop (.ListComp (.Name y pz) [⟨.Name x px, iter, [], 0⟩, ⟨.Name y py, iter', [], 0⟩] scope pos) 1 (.ref I) (.ref D) (compEnvC scope cl C env)) R s := by
  have W := Walks.tuple (prog := prog) (w := w) hh I T hTI its.toArray
  have hlen : its.toArray.size = its.length := by simp
  rw [hlen] at W
  refine codeAny_loop rfl (fun k s' => In2 s its.length (In2J s I C D T ys its) k s') ?_ (its.length + 1) (.mk s.heap s.toks 0 mC (Nat.zero_le _) rfl ⟨⟨hI, hT⟩, hn, by simpa using hD, fun _ _ _ _ _ e => e⟩)
  rintro k s' ⟨h', tk, i, m', hi, rfl, ⟨hst, hn', hD', hk⟩⟩
  show wpAny _ A ((compTurn (.ListComp (.Name y pz) [⟨.Name x px, iter, [], 0⟩, ⟨.Name y py, iter', [], 0⟩] scope pos) 1 (.ref I) (.ref D) (compEnvC scope cl C env)).onRaise (fun x => do noteFrame x (compEnvC scope cl C env); theTreesLotGoes x)) _ _ _
  refine wpAny_noted ?_
  rw [compTurn_in]
  refine wpAny_bind (wpAny_standAt (wpAny_bind ?_))
  by_cases hlt : i < its.length
  · refine W.item i _ _ _ hlt hst fun v h₂ tk₂ hPv hst₂ hk₂ => ?_
    refine wpAny_bind (wpAny_of_eq (show letOwnedTupleGo (.Name y py) (.ref I) v = pure () by rfl) ?_)
    refine wpAny_bind (wpAny_assign_Name (wpAny_storeName_local (lookup_relabel_local hy) (hn'.at' fun o e => hk₂ _ o (by simpa using Ne.symm hIC) e) (fun h₃ hn₃ hs₃ => ?_) (by simp [compEnvC, relabel, hkind])))
    refine wpAny_bind (wpAny_bind (wpAny_Name (wpAny_loadName_local (by simp [compEnvC, relabel, hkind]) (lookup_relabel_local hy) hn₃ (v := v) (by simp) ?_) hd))
    have hD₂ : h₂.get? D = some (LCg.lst (ys ++ its.take i)) := hk₂ _ _ (by simpa using Ne.symm hID) hD'
    have hD₃ : h₃.get? D = some (LCg.lst (ys ++ its.take i)) := hs₃.extBut _ _ (Ne.symm hCD) hD₂
    refine wpAny_bind (append_at (hsz := by show (ys ++ its.take i).toArray.size ≤ sizeLine; rw [List.size_toArray, List.length_append, List.length_take]; omega) hD₃ fun h₅ hs₅ hD₅ => ?_)
    refine wpAny_pure (wpAny_pure ⟨rfl, its.length + 1 - (i + 1), by omega, .mk h₅ _ (i + 1) _ hlt rfl ⟨?_, hn₃.sameBut hs₅ hCD, ?_, ?_⟩⟩)
    · exact W.frame _ _ _ (W.frame _ _ _ hst₂ fun b hb o e => hs₃.extBut b o (by
        simp at hb
        rcases hb with rfl | rfl
        · exact hIC
        · exact hTC) e) fun b hb o e => hs₅.extBut b o (by
        simp at hb
        rcases hb with rfl | rfl
        · exact hID
        · exact hTD) e
    · rw [hD₅]
      have hv : v = its[i] := by
        have := hPv
        simp [hlt] at this
        exact this.symm
      have ht : ys ++ its.take (i + 1) = (ys ++ its.take i) ++ [v] := by rw [List.append_assoc, List.take_add_one, List.getElem?_eq_getElem hlt, hv]; rfl
      rw [ht]
      exact congrArg some (LCg.lst_snoc _ _)
    · intro b o h1 h2 h3 e
      exact hs₅.extBut b o h3 (hs₃.extBut b o h2 (hk₂ b o (by simpa using h1) (hk b o h1 h2 h3 e)))
  · obtain rfl : i = its.length := Nat.le_antisymm hi (Nat.not_lt.mp hlt)
    refine W.done _ _ _ hst fun h₂ tk₂ hk₂ => ?_
    refine wpAny_pure (hR h₂ tk₂ m' (hn'.at' fun o e => hk₂ _ o (by simpa using Ne.symm hIC) e) ?_ fun b o h1 h2 h3 e => hk₂ b o (by simpa using h1) (hk b o h1 h2 h3 e))
    rw [List.take_length] at hD'
    exact hk₂ _ _ (by simpa using Ne.symm hID) hD'

theorem compStart2 {elt target iter target' iter' : Expr} {scope : Scope} {pos : Pos} {I T : Addr} {n : Nat} {acc : Value} (hit : s.heap.IsTupleIter I T n)
    (h0 : codeAny (model prog w) A (.compLoop (.ListComp elt [⟨target, iter, [], 0⟩, ⟨target', iter', [], 0⟩] scope pos) 1 (.ref I) acc env) R s) :
    codeAny (model prog w) A (.compStart (.ListComp elt [⟨target, iter, [], 0⟩, ⟨target', iter', [], 0⟩] scope pos) 1 (.ref I) acc env) R s := by
  refine codeAny_of_tree ?_
  show wpAny _ _ ((compStart (.ListComp elt [⟨target, iter, [], 0⟩, ⟨target', iter', [], 0⟩] scope pos) 1 (.ref I) acc env).onRaise (fun x => do noteFrame x env; standAt theWindowsPlace)) _ _ s
  refine wpAny_notedAt ?_
  unfold compStart
  show wpAny _ _ (ask >>= _) _ _ s
  refine wpAny_bind (wpAny_askSetting (wpAny_ite ?_))
  split
  · first
      | exact wpAny_bind (wpAny_pure (wpAny_pure (And.intro rfl h0)))
      | exact wpAny_pure (And.intro rfl h0)
  · refine wpAny_bind (wpAny_rule ?_)
    show wpAny _ _ (standAt iter'.pos >>= _) _ _ s
    exact wpAny_bind (wpAny_standAt (wpAny_bind (wpAny_pyIter_tupleiter hit (wpAny_pure (And.intro rfl h0)))))

noncomputable def Rest2 (prog : Program) (w : World) (A : Around) (h₀ : Heap) (L : Addr) (m : Str → Option Value) (env : Env) (iter : Expr) (x : Str) (scope : Scope) (cl : List (Str × Addr)) (s : Shared) (S : List (Addr × Obj) → Prop) (P : Nat → Value → Prop)
    (Fin : List Value → List (Addr × Obj) → Prop) : Nat → Nat → List Value → List (Addr × Obj) → Prop
  | 0, _, ys, news => Fin ys news
  | k + 1, i, ys, news => ∀ v I oI C oC D m₂ h tk (E' : Value → Shared → Prop), P i v → LCg.NsObj oC m₂ → m₂ x = some v → Fr h₀ L h m → News h₀ L h ((I, oI) :: (C, oC) :: (D, LCg.lst ys) :: news) → LCg.Off3 I C D news → ((@Ne Nat I C) ∧ (@Ne Nat I D) ∧ (@Ne Nat C D)) →
      wpAny (model prog w) A (eval iter (compEnvC scope cl C env)) (LCg.CompEnd h₀ L m { s with heap := h, toks := tk } I oI C oC D (LCg.lst ys) S
        (fun y news' => ∃ T its n, y = .ref T ∧ (T, tupO its n) ∈ news' ∧ ys.length + its.length ≤ sizeLine ∧ Rest2 prog w A h₀ L m env iter x scope cl s S P Fin k (i + 1) (ys ++ its) news')) E' { s with heap := h, toks := tk }

theorem Rest2.zero {iter : Expr} {x : Str} {scope : Scope} {cl : List (Str × Addr)} {S : List (Addr × Obj) → Prop} {P : Nat → Value → Prop} {Fin : List Value → List (Addr × Obj) → Prop} {i : Nat} {ys : List Value} {news : List (Addr × Obj)} (h : Fin ys news) :
    Rest2 prog w A h₀ L m env iter x scope cl s S P Fin 0 i ys news := h
theorem Rest2.succ {iter : Expr} {x : Str} {scope : Scope} {cl : List (Str × Addr)} {S : List (Addr × Obj) → Prop} {P : Nat → Value → Prop} {Fin : List Value → List (Addr × Obj) → Prop} {k i : Nat} {ys : List Value} {news : List (Addr × Obj)}
    (h : ∀ v I oI C oC D m₂ h tk (E' : Value → Shared → Prop), P i v → LCg.NsObj oC m₂ → m₂ x = some v → Fr h₀ L h m → News h₀ L h ((I, oI) :: (C, oC) :: (D, LCg.lst ys) :: news) → LCg.Off3 I C D news → ((@Ne Nat I C) ∧ (@Ne Nat I D) ∧ (@Ne Nat C D)) →
      wpAny (model prog w) A (eval iter (compEnvC scope cl C env)) (LCg.CompEnd h₀ L m { s with heap := h, toks := tk } I oI C oC D (LCg.lst ys) S
        (fun y news' => ∃ T its n, y = .ref T ∧ (T, tupO its n) ∈ news' ∧ ys.length + its.length ≤ sizeLine ∧ Rest2 prog w A h₀ L m env iter x scope cl s S P Fin k (i + 1) (ys ++ its) news')) E' { s with heap := h, toks := tk }) :
    Rest2 prog w A h₀ L m env iter x scope cl s S P Fin (k + 1) i ys news := h
/-- the outer loop's state -/
structure B2J (h₀ : Heap) (L : Addr) (m : Str → Option Value) (I C D : Addr) (St : Nat → Heap → Prop) (S : List (Addr × Obj) → Prop) (Rs : Nat → Nat → List Value → List (Addr × Obj) → Prop) (n : Nat) (h' : Heap) (i : Nat) (ys : List Value) (m' : Str → Option Value) (news' : List (Addr × Obj)) : Prop where
  hst : St i h'
  F : Fr h₀ L h' m
  hn : h'.Ns C m'
  N : News h₀ L h' ((D, LCg.lst ys) :: news')
  off : LCg.Off3 I C D news'
  hS : S news'
  R : Rs (n - i) i ys news'
inductive B2I (s : Shared) (n : Nat) (J : Heap → Nat → List Value → (Str → Option Value) → List (Addr × Obj) → Prop) (k : Nat) : Shared → Prop
  | mk (h' : Heap) (tk i : Nat) (ys : List Value) (m' : Str → Option Value) (news' : List (Addr × Obj)) : i ≤ n → k = n + 1 - i → J h' i ys m' news' → B2I s n J k { s with heap := h', toks := tk }
theorem block2 {iter iter' : Expr} {x y : Str} {px py pz : Pos} {scope : Scope} {cl : List (Str × Addr)} {pos : Pos} {s₂ : Shared} {I : Addr} {fp : List Addr} {n : Nat} {P : Nat → Value → Prop} {St : Nat → Heap → Prop} {S : List (Addr × Obj) → Prop} {news : List (Addr × Obj)}
    {Fin : List Value → List (Addr × Obj) → Prop} {RR : Value → Addr → Result → Shared → Prop}
    (hh : A.handled = none) (W : Walks prog w A I fp [I] n P St) (hIo : ∀ i h, St i h → ∃ o, h.get? I = some o)
    (hSt : ∀ i h h' o nw, St i h → h.get? I = some o → h'.get? I = some o → (∀ b o, h₀.get? b = some o → h'.get? b = some o) → News h₀ L h' nw → S nw → St i h')
    (hcell : ∀ y ∈ scope.names, y.2 ≠ .cell) (hkind : scope.kind = .function) (hx : scope.names.lookup x = some .local) (hy : scope.names.lookup y = some .local) (hd : (y == ("__debug__" : Str)) = false)
    (hfold : ∀ env x, foldedSetIterable iter' env x = pure x) (hst : St 0 s₂.heap) (hfp : ∀ b ∈ fp, b < s₂.heap.objs.size)
    (F : Fr h₀ L s₂.heap m) (N : News h₀ L s₂.heap news) (hIL : L ≠ I) (hI₀ : h₀.get? I = none) (off : ∀ p ∈ news, p.1 ≠ I) (hS : S news)
    (R : Rest2 prog w A h₀ L m env iter' x scope cl s₂ S P Fin n 0 [] news)
    (hRR : ∀ D C h tk m' ys news', Fr h₀ L h m → News h₀ L h ((D, LCg.lst ys) :: news') → LCg.Off1 D news' → h.Ns C m' → h₀.get? C = none → h₀.get? D = none → C ≠ L → D ≠ L → C ≠ D → (∀ p ∈ news', p.1 ≠ C) → Fin ys news' → RR (.ref D) C (.ok .next) { s₂ with heap := h, toks := tk }) :
    wpAny (model prog w) A (newList []) (fun acc s₃ => wpAny (model prog w) A (newFunctionEnv scope env.globals cl [] env.qual none .none (some env)) (fun cenv s₄ =>
      codeAny (model prog w) A (.compStart (.ListComp (.Name y pz) [⟨.Name x px, iter, [], 0⟩, ⟨.Name y py, iter', [], 0⟩] scope pos) 0 (.ref I) acc { cenv with scope := relabel scope env }) (RR acc cenv.locals) s₄) E s₃) E s₂ := by
  refine wpAny_newObj_type (wpAny_newFunctionEnv hcell (by intro y hy; simp at hy) (fun h₁ hns₁ hsb₁ => ?_) hkind)
  dsimp only at hns₁ hsb₁ ⊢
  generalize hH2 : s₂.heap.push { cls := .type "list", dict := none, data := .seq ([] : List Value).toArray } = H2 at hns₁ hsb₁ ⊢
  have hC : H2.objs.size = s₂.heap.objs.size + 1 := by rw [← hH2, Heap.size_push]
  have hDC : s₂.heap.objs.size ≠ H2.objs.size := by rw [hC]; exact Nat.ne_of_lt (Nat.lt_succ_self _)
  have below : ∀ b, b < s₂.heap.objs.size → b ≠ H2.objs.size ∧ b ≠ s₂.heap.objs.size := fun b hb => ⟨by rw [hC]; exact Nat.ne_of_lt (Nat.lt_succ_of_lt hb), Nat.ne_of_lt hb⟩
  have hDf : s₂.heap.objs.size ∉ fp := fun hm => Nat.lt_irrefl _ (hfp _ hm)
  have hCf : H2.objs.size ∉ fp := fun hm => by have := hfp _ hm; rw [hC] at this; exact Nat.lt_irrefl _ (Nat.lt_of_succ_lt this)
  have hIf : I ∈ fp := W.sub I (List.mem_singleton.mpr rfl)
  have hIlt : I < s₂.heap.objs.size := hfp I hIf
  have old : ∀ b o, s₂.heap.get? b = some o → h₁.get? b = some o := fun b o e => hsb₁.extBut b o (below b (Heap.lt_size e)).1 (Heap.get?_push_of_some _ (hH2 ▸ Heap.get?_push_of_some _ e))
  have hacc : h₁.get? s₂.heap.objs.size = some (LCg.lst []) := hsb₁.extBut _ _ hDC (Heap.get?_push_of_some _ (hH2 ▸ Heap.get?_push_size _ rfl))
  have hst₁ : St 0 h₁ := W.frame _ _ _ hst fun b _ o e => old b o e
  have fresh : ∀ a, s₂.heap.objs.size ≤ a → s₂.heap.get? a = none := fun a ha => by
    cases e : s₂.heap.get? a with
    | none => rfl
    | some o' => exact absurd (Heap.lt_size e) (Nat.not_lt.mpr ha)
  have fresh₀ : ∀ a, s₂.heap.objs.size ≤ a → h₀.get? a = none := fun a ha => by
    cases e : h₀.get? a with
    | none => rfl
    | some o' => have := F.keep a o' e; rw [fresh a ha] at this; cases this
  have hD₀ : h₀.get? s₂.heap.objs.size = none := fresh₀ _ (Nat.le_refl _)
  have hC₀ : h₀.get? H2.objs.size = none := fresh₀ _ (by rw [hC]; exact Nat.le_succ _)
  have hLlt : L < s₂.heap.objs.size := F.ns.lt
  have hDL : s₂.heap.objs.size ≠ L := Ne.symm (below L hLlt).2
  have hCL : H2.objs.size ≠ L := Ne.symm (below L hLlt).1
  have hCI : I ≠ H2.objs.size := (below I hIlt).1
  have hDI : I ≠ s₂.heap.objs.size := (below I hIlt).2
  have off₀ : LCg.Off3 I H2.objs.size s₂.heap.objs.size news := LCg.Off3.of fun p hp => ⟨off p hp, (below _ (Heap.lt_size (N p hp).1)).1, (below _ (Heap.lt_size (N p hp).1)).2⟩
  have loop : ∀ s₃ : Shared, s₃ = { s₂ with heap := h₁, toks := s₂.toks + ([] : List (Str × Value)).length } →
      codeAny (model prog w) A (.compLoop (.ListComp (.Name y pz) [⟨.Name x px, iter, [], 0⟩, ⟨.Name y py, iter', [], 0⟩] scope pos) 0 (.ref I) (.ref s₂.heap.objs.size) (compEnvC scope cl H2.objs.size env))
        (RR (.ref s₂.heap.objs.size) H2.objs.size) s₃ := by
    rintro s₃ rfl
    refine codeAny_loop rfl
      (fun k s' => B2I s₂ n (B2J h₀ L m I H2.objs.size s₂.heap.objs.size St S (Rest2 prog w A h₀ L m env iter' x scope cl s₂ S P Fin) n) k s') ?_ (n + 1)
      (.mk h₁ _ 0 [] _ news (Nat.zero_le _) rfl ⟨hst₁, F.keeps old, hns₁, fun p hp => ?_, off₀, hS, R⟩)
    · rintro k s' ⟨h', tk, i, ys, m', news', hi, rfl, ⟨hst', F', hn', N', off', hS', R'⟩⟩
      show wpAny _ A ((compTurn (.ListComp (.Name y pz) [⟨.Name x px, iter, [], 0⟩, ⟨.Name y py, iter', [], 0⟩] scope pos) 0 (.ref I) (.ref s₂.heap.objs.size) (compEnvC scope cl H2.objs.size env)).onRaise (fun x => do noteFrame x (compEnvC scope cl H2.objs.size env); theTreesLotGoes x)) _ _ _
      refine wpAny_noted ?_
      rw [compTurn_out]
      refine wpAny_bind (wpAny_standAt (wpAny_bind ?_))
      by_cases hlt : i < n
      · obtain ⟨j, hj⟩ : ∃ j, n - i = j + 1 := ⟨n - i - 1, by omega⟩
        rw [hj] at R'
        refine W.item i _ _ _ hlt hst' fun v h₂ tk₂ hPv hst₂ hk₂ => ?_
        refine wpAny_bind (wpAny_of_eq (show letOwnedTupleGo (.Name x px) (.ref I) v = pure () by rfl) ?_)
        refine wpAny_bind (wpAny_assign_Name (wpAny_storeName_local (lookup_relabel_local hx) (hn'.at' fun o e => hk₂ _ o (by simpa using Ne.symm hCI) e) (fun h₃ hn₃ hs₃ => ?_) (by simp [compEnvC, relabel, hkind])))
        have hst₃ : St (i + 1) h₃ := W.frame _ _ _ hst₂ fun b hb o e => hs₃.extBut b o (fun q => hCf (by have q' : b = H2.objs.size := q; rw [← q']; exact hb)) e
        obtain ⟨oI, heI⟩ := hIo _ _ hst₃
        obtain ⟨oC, heC, hoC⟩ := LCg.ns_obj hn₃
        have F₃ : Fr h₀ L h₃ m := (LCg.fr_but F' hk₂ hIL hI₀).change hs₃ hCL hC₀
        have off3 := off'.mem
        have N₂ : News h₀ L h₂ ((s₂.heap.objs.size, LCg.lst ys) :: news') := LCg.news_but N' hk₂ fun p hp => by
          rcases List.mem_cons.mp hp with rfl | hp
          · exact Ne.symm hDI
          · exact (off3 p hp).1
        have N₃ : News h₀ L h₃ ((I, oI) :: (H2.objs.size, oC) :: (s₂.heap.objs.size, LCg.lst ys) :: news') := fun p hp => by
          rcases List.mem_cons.mp hp with rfl | hp
          · exact ⟨heI, Ne.symm hIL, hI₀⟩
          · rcases List.mem_cons.mp hp with rfl | hp
            · exact ⟨heC, hCL, hC₀⟩
            · have z := N₂ p hp
              refine ⟨hs₃.extBut _ _ ?_ z.1, z.2⟩
              rcases List.mem_cons.mp hp with rfl | hp
              · exact hDC
              · exact (off3 p hp).2.1
        refine wpAny_bind (wpAny_mono (R' v I oI H2.objs.size oC s₂.heap.objs.size _ h₃ _ _ hPv hoC (by simp) F₃ N₃ off' ⟨hCI, hDI, Ne.symm hDC⟩) (fun xv s₄ h₄ => ?_) fun _ _ e => e)
        obtain ⟨h₄, tk₄, news₄, rfl, F₄, N₄, off₄, hS₄, T, its, nT, rfl, hmT, hszT, R₄⟩ := h₄
        have zI := (N₄ (I, oI) List.mem_cons_self).1
        have zC := (N₄ (H2.objs.size, oC) (List.mem_cons_of_mem _ List.mem_cons_self)).1
        have zD := (N₄ (s₂.heap.objs.size, LCg.lst ys) (List.mem_cons_of_mem _ (List.mem_cons_of_mem _ List.mem_cons_self))).1
        have N₄' : News h₀ L h₄ news₄ := fun p hp => N₄ p (List.mem_cons_of_mem _ (List.mem_cons_of_mem _ (List.mem_cons_of_mem _ hp)))
        have hst₄ : St (i + 1) h₄ := hSt _ _ _ _ _ hst₃ heI zI F₄.keep N₄' hS₄
        have hT₄ : h₄.IsTuple T its.toArray := ⟨_, (N₄' _ hmT).1, rfl, nT, rfl⟩
        have off4 := off₄.mem
        have offT := off4 _ hmT
        refine wpAny_bind (wpAny_standAt (wpAny_bind (wpAny_of_eq (hfold _ _) (wpAny_bind (wpAny_holding (wpAny_pyIter_tuple hT₄ ?_))))))
        have lt₄ : ∀ b o, h₄.get? b = some o → b ≠ h₄.objs.size := fun b o e => Nat.ne_of_lt (Heap.lt_size e)
        refine wpAny_bind (wpAny_runOwn (compStart2 (T := T) (n := 0) ⟨_, Heap.get?_push_size _ rfl, rfl, rfl⟩ (inner2 (T := T) (its := its) (ys := ys) hh hkind hy hd (hoC.ns (Heap.get?_push_of_some _ zC)) (Heap.get?_push_of_some _ zD) (hT₄.push _)
          ⟨_, Heap.get?_push_size _ rfl, rfl, rfl⟩ (Ne.symm (lt₄ _ _ zC)) (Ne.symm (lt₄ _ _ zD)) (Ne.symm hDC) (lt₄ _ _ (N₄' _ hmT).1) offT.2.1 offT.2.2 hszT (fun h₅ tk₅ m₅ hn₅ hD₅ hk₅ => ?_))))
        have keep5 : ∀ b o, b ≠ H2.objs.size → b ≠ s₂.heap.objs.size → h₄.get? b = some o → h₅.get? b = some o := fun b o h1 h2 e => hk₅ b o (lt₄ b o e) h1 h2 (Heap.get?_push_of_some _ e)
        have F₅ : Fr h₀ L h₅ m := ⟨F₄.ns.at' fun o e => keep5 _ o (Ne.symm hCL) (Ne.symm hDL) e, fun b o e => keep5 b o (fun q => by rw [q, hC₀] at e; cases e) (fun q => by rw [q, hD₀] at e; cases e) (F₄.keep b o e), F₄.above⟩
        have N₅ : News h₀ L h₅ news₄ := fun p hp => ⟨keep5 _ _ (off4 p hp).2.1 (off4 p hp).2.2 (N₄' p hp).1, (N₄' p hp).2⟩
        have eI₅ : h₅.get? I = some oI := keep5 _ _ hCI hDI zI
        refine wpAny_pure ⟨rfl, n + 1 - (i + 1), by omega, .mk h₅ tk₅ (i + 1) (ys ++ its) _ news₄ hlt rfl ⟨hSt _ _ _ _ _ hst₄ zI eI₅ F₅.keep N₅ hS₄, F₅, hn₅, fun p hp => ?_, off₄, hS₄, ?_⟩⟩
        · rcases List.mem_cons.mp hp with rfl | hp
          · exact ⟨hD₅, hDL, hD₀⟩
          · exact N₅ p hp
        · rw [show n - (i + 1) = j by omega]
          exact R₄
      · obtain rfl : i = n := Nat.le_antisymm hi (Nat.not_lt.mp hlt)
        rw [Nat.sub_self] at R'
        refine W.done _ _ _ hst' fun h₂ tk₂ hk₂ => ?_
        have off3 := off'.mem
        exact wpAny_pure (hRR _ _ h₂ tk₂ _ ys news' (LCg.fr_but F' hk₂ hIL hI₀) (LCg.news_but N' hk₂ fun p hp => by
          rcases List.mem_cons.mp hp with rfl | hp
          · exact Ne.symm hDI
          · exact (off3 p hp).1) off'.one (hn'.at' fun o e => hk₂ _ o (by simpa using Ne.symm hCI) e) hC₀ hD₀ hCL hDL (Ne.symm hDC) (fun p hp => (off3 p hp).2.1) R')
    · rcases List.mem_cons.mp hp with rfl | hp
      · exact ⟨hacc, hDL, hD₀⟩
      · exact ⟨old _ _ (N p hp).1, (N p hp).2⟩
  exact codeAny_compStart_list (loop _ rfl) (W.self 0 _ _ _ hst₁ (loop _ rfl))

noncomputable def Src2 (prog : Program) (w : World) (A : Around) (h₀ : Heap) (L : Addr) (m : Str → Option Value) (env : Env) (iter' : Expr) (x : Str) (scope : Scope) (cl : List (Str × Addr)) (Fin : Shared → List Value → List (Addr × Obj) → Prop) (xv : Value) (s₁ : Shared) : Prop :=
  ∃ ax its n news, xv = .ref ax ∧ A.handled = none ∧ Fr h₀ L s₁.heap m ∧ News h₀ L s₁.heap news ∧ (ax, listOf its n) ∈ news ∧
    ∀ h : Heap, Rest2 prog w A h₀ L m env iter' x scope cl { s₁ with heap := h } (fun nw => (ax, listOf its n) ∈ nw) (fun i v => its[i]? = some v) (Fin { s₁ with heap := h }) its.size 0 [] news
theorem Src2.mk {iter' : Expr} {x : Str} {scope : Scope} {cl : List (Str × Addr)} {Fin : Shared → List Value → List (Addr × Obj) → Prop} {s₁ : Shared} {ax : Addr} {its : Array Value} {n : Nat} {news : List (Addr × Obj)}
    (hh : A.handled = none) (F : Fr h₀ L s₁.heap m) (N : News h₀ L s₁.heap news) (hm : (ax, listOf its n) ∈ news)
    (h : ∀ h : Heap, Rest2 prog w A h₀ L m env iter' x scope cl { s₁ with heap := h } (fun nw => (ax, listOf its n) ∈ nw) (fun i v => its[i]? = some v) (Fin { s₁ with heap := h }) its.size 0 [] news) :
    Src2 prog w A h₀ L m env iter' x scope cl Fin (.ref ax) s₁ := ⟨ax, its, n, news, rfl, hh, F, N, hm, h⟩

theorem Assign_ListComp2 {iter iter' : Expr} {x y z : Str} {px py pz pz' : Pos} {scope : Scope} {cl : List (Str × Addr)} {pos spos : Pos} {Q : Flow → Shared → Prop} (_F₀ : Fr h₀ L s.heap m) (hLe : env.locals = L)
    (hsw : swapsWith (.ListComp (.Name y pz) [⟨.Name x px, iter, [], 0⟩, ⟨.Name y py, iter', [], 0⟩] scope pos) (some (.Name z pz')) spos.line env = pure true)
    (hclos : closureFor scope env = pure cl) (hcell : ∀ z ∈ scope.names, z.2 ≠ .cell) (hkind : scope.kind = .function)
    (hnames : ∀ z ∈ scope.names, z.2 = .local → scope.names.lookup z.1 = some .local) (hx : scope.names.lookup x = some .local) (hy : scope.names.lookup y = some .local) (hd : (y == ("__debug__" : Str)) = false)
    (hfold : ∀ env x, foldedSetIterable iter' env x = pure x)
    (hz : env.kindOf z = some .local) (hp : (env.scope.kind == .class || (env.scope.kind == .module && env.locals != env.globals)) = false)
    (h : wpAny (model prog w) A (eval iter env) (Src2 prog w A h₀ L m env iter' x scope cl (fun s₂ => LCg.FinA h₀ L m s₂ z Q)) E s)
    (hs : ∀ x, foldedSetIterable iter env x = pure x := by intro _; rfl) :
    wpAny (model prog w) A (exec (.Assign [.Name z pz'] (.ListComp (.Name y pz) [⟨.Name x px, iter, [], 0⟩, ⟨.Name y py, iter', [], 0⟩] scope pos) spos) env) Q E s := by
  subst hLe
  rw [exec_Assign_Name_used _ _ _ _ hsw]
  refine wpAny_bind (wpAny_standAt (wpAny_bind ?_))
  show wpAny _ A (do let _ ← comprehension (.ListComp (.Name y pz) [⟨.Name x px, iter, [], 0⟩, ⟨.Name y py, iter', [], 0⟩] scope pos) scope env _ (newList []) false (eval iter env) (some (assign (.Name z pz') env))) _ _ s
  refine wpAny_bind (wpAny_mono (wpAny_comprehension_free (use := some (assign (.Name z pz') env)) (Q := fun _ s' => Q .next s') rfl hs hclos hkind hnames
    (wpAny_mono h (fun xv s₁ h₁ => ?_) fun _ _ e => e)) (fun _ s' hq => wpAny_pure (wpAny_pure hq)) fun _ _ e => e)
  obtain ⟨ax, its, n, news, rfl, hh, F, N, hm, R⟩ := h₁
  have hl : s₁.heap.IsList ax its := ⟨_, (N _ hm).1, rfl, n, rfl⟩
  have hlt : ax < s₁.heap.objs.size := by obtain ⟨_, e, _⟩ := hl; exact Heap.lt_size e
  refine wpAny_pyIter_list hl ?_
  have up : ∀ b o, s₁.heap.get? b = some o → (s₁.heap.push { cls := .type "list_iterator", data := .fields #[.ref ax, .int 0 0] }).get? b = some o := fun b o e => Heap.get?_push_of_some _ e
  refine block2 (S := fun nw => (ax, listOf its n) ∈ nw) hh (Walks.list hh s₁.heap.objs.size ax (Nat.ne_of_lt hlt) its) (fun i h st => by obtain ⟨o, e, _⟩ := st.1; exact ⟨o, e⟩)
    (fun i h h' o nw st e e' k N' S => ⟨by obtain ⟨o', q, r⟩ := st.1; rw [e] at q; cases q; exact ⟨o, e', r⟩, ⟨_, (N' _ S).1, rfl, n, rfl⟩⟩)
    hcell hkind hx hy hd hfold ⟨⟨_, Heap.get?_push_size _ rfl, rfl, rfl⟩, hl.push _⟩ (fun b hb => ?_)
    (F.keeps up) (N.grown up) (Nat.ne_of_lt F.ns.lt) (next_is_new F) (fun p hp => Nat.ne_of_lt (Heap.lt_size (N p hp).1)) hm (R _) ?_
  · show b < (s₁.heap.push _).objs.size
    rw [Heap.size_push]
    rcases List.mem_cons.mp hb with rfl | hb
    · exact Nat.lt_succ_self _
    · rw [List.mem_singleton.mp hb]; exact Nat.lt_succ_of_lt hlt
  · intro D C h' tk m' ys news' F' N' o1 hn hC₀ hD₀ hCL hDL hCD offC fin
    show wpAny _ A (assign (.Name z pz') env (.ref D)) _ _ _
    refine wpAny_assign_Name (wpAny_storeName_local hz F'.ns (fun h₂ hn₂ hs₂ => ?_) hp)
    have hL₀ : h₀.get? env.locals = none := Heap.get?_none_of_le F'.above
    have F₂ : Fr h₀ env.locals h₂ (fun y => if y = z then some (.ref D) else m y) := ⟨hn₂, fun b o e => hs₂.extBut b o (fun q => by rw [q, hL₀] at e; cases e) (F'.keep b o e), F'.above⟩
    refine ⟨m', hn.sameBut hs₂ hCL, fun h'' hs'' => fin D h'' _ (F₂.change hs'' hCL hC₀) (fun p hp => ?_) o1⟩
    have zz : h₂.get? p.1 = some p.2 := hs₂.extBut _ _ (N' p hp).2.1 (N' p hp).1
    refine ⟨hs''.extBut _ _ ?_ zz, (N' p hp).2⟩
    rcases List.mem_cons.mp hp with rfl | hp
    · exact Ne.symm hCD
    · exact offC p hp
end
end Mine
end SC1
/-! P4 -/
section SP4
open PySem.Spec PySem.Calls
namespace Mine
noncomputable abbrev greatT : ToldX Ty where
  Rel := fun _ news vs t => OneTy news vs t ∧ t.ok
  size := fun _ => 2
  Out := fun _ r t => r = .bool (decide (200 < t.depth))
set_option hygiene false in
local macro_rules | `(tactic| walk_at "execs cons") => `(tactic| (k_here; (try k_gentoks); (try k_fold); (with_reducible refine execsN ?_)))
local macro_rules | `(tactic| walk_at "m:mem") => `(tactic| first | assumption | exact List.Mem.head _ | (with_reducible refine memTail ?_; walk_at "m:mem") | (with_reducible refine memR ?_; walk_at "m:mem") | (with_reducible refine memL ?_; walk_at "m:mem"))
local macro_rules | `(tactic| k_mem) => `(tactic| walk_at "m:mem")
local macro_rules | `(tactic| walk_at "exec While") => `(tactic| (k_here; (with_reducible show wpAny _ _ (exec (Stmt.While _ _ _ _) _) _ _ _); refine Halt.go ?_))
local macro_rules | `(tactic| walk_at "exec While Compare cons nil") => `(tactic| (k_here; (with_reducible show wpAny _ _ (exec (Stmt.While _ _ _ _) _) _ _ _); refine Halt.go ?_))
local macro_rules | `(tactic| walk_at "compareOp NotEq ref ref") => `(tactic| (k_here; refine Halt.go ?_))
local macro_rules | `(tactic| walk_at "call ref") => `(tactic| (k_here; (with_reducible show wpAny _ _ (call (Value.ref _) _) _ _ _); refine Halt.go ?_))
local macro_rules | `(tactic| walk_at "m:el") => `(tactic| with_reducible first | exact memHead | (refine memTail ?_; walk_at "m:el") | (refine memR ?_; walk_at "m:el") | (refine memL ?_; walk_at "m:el"))
local macro_rules | `(tactic| walk_at "m:in") => `(tactic| with_reducible first | assumption | exact subRefl | exact subNil | (refine subCons ?_ ?_; (walk_at "m:el"); (walk_at "m:in")) | (refine subApp ?_ ?_; (walk_at "m:in"); (walk_at "m:in")) | (refine subTail ?_; walk_at "m:in") | (refine subR ?_; walk_at "m:in") | (refine subL ?_; walk_at "m:in"))

noncomputable def dep : List Ty → Nat
  | [] => 0
  | [t] => t.depth
  | _ :: t :: _ => t.depth
theorem upd3 {m : Str → Option Value} {a b c : Str} {x y z : Value} (ha : m a = some x) (hb : m b = some y) (hc : m c = some z) :
    m = fun k => if k = a then some x else if k = b then some y else if k = c then some z else m k := by
  funext k
  split
  · rename_i h; rw [h]; exact ha
  · split
    · rename_i h; rw [h]; exact hb
    · split
      · rename_i h; rw [h]; exact hc
      · rfl
theorem Ty.parts_shape (t : Ty) : t.parts = [] ∨ (∃ t', t.parts = [t']) ∨ (∃ t', t.parts = [.u8, t']) := by
  cases t <;> simp [Ty.parts]
theorem Ty.parts_dep (t : Ty) : dep t.parts + 1 = t.depth := by cases t <;> simp [Ty.parts, dep, Ty.depth]
theorem Ty.parts_ok {t : Ty} (h : t.ok) : ∀ t' ∈ t.parts, t'.ok := by
  cases t <;> simp_all [Ty.parts, Ty.ok]
structure GreatJ (t : Ty) (ext news : List (Addr × Obj)) (k : Nat) (m₁ : Str → Option Value) (news₁ : List (Addr × Obj)) (lv : Addr) (ts : List Ty) (vs : List Value) (nn : Nat) (lvl mny : Int) (tk1 tk2 : Tok) (tl : List (Addr × Obj)) : Prop where
  hk : k = dep ts
  h1 : m₁ (Str.ofString "level") = some (.ref lv)
  h2 : m₁ (Str.ofString "levels") = some (.int lvl tk1)
  h3 : m₁ (Str.ofString "many") = some (.int mny tk2)
  hn : news₁ = (lv, listOf vs.toArray nn) :: (ext ++ (news ++ tl))
  hA : TyAll (news ++ tl) vs ts
  ho : ∀ q ∈ ext ++ news, ∀ p ∈ tl, q.1 < p.1
  hs : ts = [] ∨ (∃ t', ts = [t']) ∨ (∃ t', ts = [.u8, t'])
  hok : ∀ t' ∈ ts, t'.ok
  hl : lvl + (dep ts : Int) = t.depth
  hl1 : lvl ≤ 200
  hl0 : 0 ≤ lvl
  hm0 : 0 ≤ mny
  hm : mny ≤ 2 * lvl

inductive GreatI (t : Ty) (ext news : List (Addr × Obj)) (k : Nat) (m₁ : Str → Option Value) (news₁ : List (Addr × Obj)) : Prop
  | mk (lv : Addr) (ts : List Ty) (vs : List Value) (nn : Nat) (lvl mny : Int) (tk1 tk2 : Tok) (tl : List (Addr × Obj)) (h : GreatJ t ext news k m₁ news₁ lv ts vs nn lvl mny tk1 tk2 tl)
set_option maxHeartbeats 8000000 in
noncomputable def cut109 : Cut (∀ (w : World) (p : Program) (loose : List Str) (mean : ExcName → Option Value) (mg mb : Str → Option Value) (t : Ty), TellsX PySem.Challenge.rw_xw0159_01.row.prog w (hd.heap_1 w.params) p loose mean mg mb 109 greatT t) := by
  refine' ⟨_, fun kP w p loose mean mg mb t => ?use⟩
  case use =>
    unfold TellsX
    k_fill
    intro dp un gd cn cs a ccd cl outer A₀ base h₀ L m ext news s vs Q E B F X N T hk hR hdp hun hret
    obtain ⟨hR, hok⟩ := hR
    cases hR
    rename_i v hR
    dsimp only [greatT] at hdp hun
    refine wpAny_call ?_
    k_dflt (refine' code_def ?k1 ?k2 ?k3 ?k4 ?k5 ?kA ?kF ?kK ?k6 ?k7 ?k8 ?k9 ?kB ?_ ?c2 ?c3 ?c4 ?c5; (case kA => exact rfl); (case kF => exact rfl); (case kK => assumption); (case k1 => k_asm); (case k2 => k_asm); (case k3 => k_asm); (case k4 => k_asm); (case k5 => k_asm); (case k6 => k_is); (case k7 => k_is); (case k8 => ktr_room); (case k9 => exact BindsTo.of_eq rfl); (case c5 => decide); (case kB => exact locs rfl); (case c2 => exact rfl); (case c3 => exact rfl); (case c4 => exact rfl); k_whole; intro g' L' h' FG' F' N' B' X' T')
    revert T'; revert X'; revert B'; revert N'; revert F'; revert FG'; revert hret; revert hun; revert hdp; revert hok; revert hR; revert hk; revert T; revert N; revert X; revert F; revert B; revert v; revert t
    exact @kP w p loose mean mg mb dp un gd cn cs a ccd cl outer A₀ base h₀ L m ext news s Q E g' L' h'
@[irreducible] noncomputable def x109 : Pt := pick pt0 fun x => x.at cut109.P
set_option maxHeartbeats 8000000 in
theorem is_too_great_tells_b : x109.at cut109.P := by
  intro t v B F X N T hk hR hok hdp hun hret FG' F' N' B' X' T'
  (try dsimp only)
  (try k_fold)
  have hc := cLine_is
  k_steps
  refine Halt.mk ?_
  rename_i lv hx5 lx1 D1 hx4 lx0 hx3 hx2 hx1 hx F1 N1
  refine While_invR (h₀ := x109.g) (L := x109.L') (GreatI t x109.ext x109.news) (n₀ := t.depth) F1 (nsub (l' := (lv, listOf [v].toArray 0) :: (x109.ext ++ (x109.news ++ []))) N1 (by walk_at "m:in")) ⟨lv, [t], [v], 0, 0, 0, _, _, [], ⟨rfl, rfl, rfl, rfl, rfl, .cons (hR.mono (by walk_at "m:in")) .nil, ord0, .inr (.inl ⟨t, rfl⟩), by simp [hok], by simp [dep], by omega, by omega, by omega, by omega⟩⟩ ?_
  intro k m₁ news₁ h₁ tk₁ F2 N2 hJ9
  (try k_fold)
  obtain ⟨lv, ts, vs, nn, lvl, mny, tk1, tk2, tl, ⟨hk, h1, h2, h3, hn, hA, ho, hs, hok', hl, hl1, hl0, hm0, hm⟩⟩ := hJ9
  rw [upd3 h1 h2 h3] at F2
  rw [hn] at N2
  have hroom : ∀ d : Nat, x109.un + 3 + min d 1 < cLine := fun d => by have := Nat.min_le_right d 1; omega
  rcases hs with rfl | ⟨t', rfl⟩ | ⟨t', rfl⟩
  · refine TyAll.e0 hA fun eV1 => ?_
    subst eV1
    k_steps
    refine Halt.mk ?_
    rename News _ _ _ _ => N3
    refine SeqAt.compareNe_reads (da := .list []) (db := .list []) (readsList (N3 _ (.tail _ (.head _))).1 .nil) (readsList (N3 _ (.head _)).1 .nil) rfl rfl (hroom _) ?_
    simp only [PyData.eqv, PyData.eqvAll, Bool.not_true]
    k_steps
    exact hret _ tl _ _ (by k_asm) (nsub (by k_asm) (by walk_at "m:in")) ho (by simp only [dep] at hl; simp; omega)
  · refine TyAll.e1 hA fun v9 eV2 hv9 => ?_
    subst eV2
    have hok1 : t'.ok := hok' _ (by simp)
    have hpos := Ty.depth_pos t'
    simp only [dep] at hl
    by_cases hbig : lvl + 1 > 200
    · k_steps
      refine Halt.mk ?_
      rename News _ _ _ _ => N3
      refine SeqAt.compareNe_reads (da := .list [t'.data]) (db := .list []) (readsList (N3 _ (.tail _ (.head _))).1 (readsCons (hv9.reads (nsub N3 (by walk_at "m:in"))) .nil)) (readsList (N3 _ (.head _)).1 .nil) (by simpa using Ty.list_canLay (ts := [t']) (by simp [hok1])) rfl (hroom _) ?_
      simp only [PyData.eqv, PyData.eqvAll, Bool.not_false]
      k_steps
      dsimp only
      repeat' (k_unfold; (try dsimp only))
      refine StepR.ret ?_
      (try dsimp only)
      k_steps
      exact hret _ tl _ _ (by k_asm) (nsub (by k_asm) (by walk_at "m:in")) ho (by simp; omega)
    · have hmany : ¬ (mny + 1 > 4000) := by omega
      k_steps
      refine Halt.mk ?_
      rename News _ _ _ _ => N3
      refine SeqAt.compareNe_reads (da := .list [t'.data]) (db := .list []) (readsList (N3 _ (.tail _ (.head _))).1 (readsCons (hv9.reads (nsub N3 (by walk_at "m:in"))) .nil)) (readsList (N3 _ (.head _)).1 .nil) (by simpa using Ty.list_canLay (ts := [t']) (by simp [hok1])) rfl (hroom _) ?_
      simp only [PyData.eqv, PyData.eqvAll, Bool.not_false]
      k_steps
      rename Fr _ _ _ _ => F4
      rename News _ _ _ _ => N4
      k_dflt (refine Assign_ListComp2 F4 (by rfl) (by with_unfolding_all rfl) (by with_unfolding_all rfl) (by decide) (by rfl) (by decide) (by rfl) (by rfl) (by decide) (fun _ _ => by rfl) (by rfl) (by rfl) ?_)
      k_steps
      refine Src2.mk (its := [v9].toArray) (n := nn) rfl F4 (nsub (l' := (lv, listOf [v9].toArray nn) :: (x109.ext ++ (x109.news ++ tl))) N4 (by walk_at "m:in")) (.head _) (fun gh => ?_)
      refine Rest2.succ ?_
      intro v2 I2 oI2 C2 oC2 D2 m2 h2 tk2 E2 hP hNs hx2 F2 N2 off2 ne2
      simp at hP
      subst hP
      (try k_fold)
      k_steps
      refine Halt.mk ?_
      k_dflt (refine' tellsX_use (c := partsT) (d := t') (x109.news ++ tl) ?k1 ?k2 ?k3 ?k4 ?k5 ?kK (parts_of_tells x109.w x109.p x109.loose x109.mean x109.mg x109.mb t') ?hs ?kR ?kd ?ku ?_)
      (((case k1 => k_asm); (case k2 => k_asm); (case k3 => k_asm); (case k4 => k_asm); (case k5 => k_asm); (case kK => first | exact rfl | assumption)))
      case hs => walk_at "m:in"
      case kd => exact bud hdp (Nat.le_of_ble_eq_true rfl)
      case ku => exact bud hun (Nat.le_of_ble_eq_true rfl)
      case kR => exact .mk (hv9.mono (by walk_at "m:in"))
      intro r29 tl29 h29 tk29 F29 N29 hl29 ho29
      obtain ⟨a29, n29, vs29, rfl, hm29, hA29⟩ := ho29
      have off29 := off3_app off2 hl29
      simp only [List.cons_append, List.append_assoc] at off29 hA29
      refine compEnd_mk F29 (nsub N29 (by walk_at "m:in")) off29 (.head _) ⟨a29, vs29, n29, rfl, memTail (memR (memOf (by walk_at "m:in") hm29)), by rw [hA29.len]; have := Ty.parts_len (t'); simp only [List.length_nil, List.nil_append, List.length_append]; have h9 : sizeLine = 16777216 := rfl; omega, ?_⟩
      refine Rest2.zero ?_
      unfold LCg.FinA
      intro D4 h4 tk4 F8 N8 o8
      simp only [List.nil_append] at N8
      k_steps
      (try dsimp only)
      repeat' (k_unfold; (try dsimp only))
      refine StepR.next F8 (nsub (l' := (D4, listOf (vs29).toArray (vs29).length) :: (x109.ext ++ (x109.news ++ (tl ++ tl29)))) N8 (by walk_at "m:in")) (n' := dep t'.parts) (by rw [hk]; have := Ty.parts_dep t'; show dep t'.parts < t'.depth; omega) ⟨D4, t'.parts, vs29, (vs29).length, lvl + 1, mny + 1, _, _, (tl ++ tl29), ⟨rfl, rfl, rfl, rfl, rfl, hA29, (ordA ho (ordS hl29 (by walk_at "m:in"))), Ty.parts_shape _, Ty.parts_ok hok1, by have := Ty.parts_dep t'; omega, by omega, by omega, by omega, by omega⟩⟩
  · refine TyAll.e2 hA fun v9 v8 eV3 hv9 hv8 => ?_
    subst eV3
    have hok1 : t'.ok := hok' _ (by simp)
    have hpos := Ty.depth_pos t'
    simp only [dep] at hl
    by_cases hbig : lvl + 1 > 200
    · k_steps
      refine Halt.mk ?_
      rename News _ _ _ _ => N3
      refine SeqAt.compareNe_reads (da := .list [Ty.u8.data, t'.data]) (db := .list []) (readsList (N3 _ (.tail _ (.head _))).1 (readsCons (hv9.reads (nsub N3 (by walk_at "m:in"))) (readsCons (hv8.reads (nsub N3 (by walk_at "m:in"))) .nil))) (readsList (N3 _ (.head _)).1 .nil) (by simpa using Ty.list_canLay (ts := [.u8, t']) (by simp [hok1, Ty.ok])) rfl (hroom _) ?_
      simp only [PyData.eqv, PyData.eqvAll, Bool.not_false]
      k_steps
      dsimp only
      repeat' (k_unfold; (try dsimp only))
      refine StepR.ret ?_
      (try dsimp only)
      k_steps
      exact hret _ tl _ _ (by k_asm) (nsub (by k_asm) (by walk_at "m:in")) ho (by simp; omega)
    · have hmany : ¬ (mny + 2 > 4000) := by omega
      k_steps
      refine Halt.mk ?_
      rename News _ _ _ _ => N3
      refine SeqAt.compareNe_reads (da := .list [Ty.u8.data, t'.data]) (db := .list []) (readsList (N3 _ (.tail _ (.head _))).1 (readsCons (hv9.reads (nsub N3 (by walk_at "m:in"))) (readsCons (hv8.reads (nsub N3 (by walk_at "m:in"))) .nil))) (readsList (N3 _ (.head _)).1 .nil) (by simpa using Ty.list_canLay (ts := [.u8, t']) (by simp [hok1, Ty.ok])) rfl (hroom _) ?_
      simp only [PyData.eqv, PyData.eqvAll, Bool.not_false]
      k_steps
      rename Fr _ _ _ _ => F4
      rename News _ _ _ _ => N4
      k_dflt (refine Assign_ListComp2 F4 (by rfl) (by with_unfolding_all rfl) (by with_unfolding_all rfl) (by decide) (by rfl) (by decide) (by rfl) (by rfl) (by decide) (fun _ _ => by rfl) (by rfl) (by rfl) ?_)
      k_steps
      refine Src2.mk (its := [v9, v8].toArray) (n := nn) rfl F4 (nsub (l' := (lv, listOf [v9, v8].toArray nn) :: (x109.ext ++ (x109.news ++ tl))) N4 (by walk_at "m:in")) (.head _) (fun gh => ?_)
      refine Rest2.succ ?_
      intro v2 I2 oI2 C2 oC2 D2 m2 h2 tk2 E2 hP hNs hx2 F2 N2 off2 ne2
      simp at hP
      subst hP
      (try k_fold)
      k_steps
      refine Halt.mk ?_
      k_dflt (refine' tellsX_use (c := partsT) (d := .u8) (x109.news ++ tl) ?k1 ?k2 ?k3 ?k4 ?k5 ?kK (parts_of_tells x109.w x109.p x109.loose x109.mean x109.mg x109.mb .u8) ?hs ?kR ?kd ?ku ?_)
      (((case k1 => k_asm); (case k2 => k_asm); (case k3 => k_asm); (case k4 => k_asm); (case k5 => k_asm); (case kK => first | exact rfl | assumption)))
      case hs => walk_at "m:in"
      case kd => exact bud hdp (Nat.le_of_ble_eq_true rfl)
      case ku => exact bud hun (Nat.le_of_ble_eq_true rfl)
      case kR => exact .mk (hv9.mono (by walk_at "m:in"))
      intro r29 tl29 h29 tk29 F29 N29 hl29 ho29
      obtain ⟨a29, n29, vs29, rfl, hm29, hA29⟩ := ho29
      have off29 := off3_app off2 hl29
      simp only [List.cons_append, List.append_assoc] at off29 hA29
      refine compEnd_mk F29 (nsub N29 (by walk_at "m:in")) off29 (.head _) ⟨a29, vs29, n29, rfl, memTail (memR (memOf (by walk_at "m:in") hm29)), by rw [hA29.len]; have := Ty.parts_len (.u8); simp only [List.length_nil, List.nil_append, List.length_append]; have h9 : sizeLine = 16777216 := rfl; omega, ?_⟩
      refine Rest2.succ ?_
      intro v2 I3 oI3 C3 oC3 D3 m2 h3 tk3 E3 hP hNs hx2 F3 N3 off3 ne3
      simp at hP
      subst hP
      (try k_fold)
      k_steps
      refine Halt.mk ?_
      k_dflt (refine' tellsX_use (c := partsT) (d := t') (x109.news ++ (tl ++ tl29)) ?k1 ?k2 ?k3 ?k4 ?k5 ?kK (parts_of_tells x109.w x109.p x109.loose x109.mean x109.mg x109.mb t') ?hs ?kR ?kd ?ku ?_)
      (((case k1 => k_asm); (case k2 => k_asm); (case k3 => k_asm); (case k4 => k_asm); (case k5 => k_asm); (case kK => first | exact rfl | assumption)))
      case hs => walk_at "m:in"
      case kd => exact bud hdp (Nat.le_of_ble_eq_true rfl)
      case ku => exact bud hun (Nat.le_of_ble_eq_true rfl)
      case kR => exact .mk (hv8.mono (by walk_at "m:in"))
      intro r39 tl39 h39 tk39 F39 N39 hl39 ho39
      obtain ⟨a39, n39, vs39, rfl, hm39, hA39⟩ := ho39
      have off39 := off3_app off3 hl39
      simp only [List.cons_append, List.append_assoc] at off39 hA39
      refine compEnd_mk F39 (nsub N39 (by walk_at "m:in")) off39 (.head _) ⟨a39, vs39, n39, rfl, memTail (memR (memOf (by walk_at "m:in") hm39)), by rw [hA39.len]; have := Ty.parts_len (t'); simp only [List.length_nil, List.nil_append, List.length_append]; have h8 : vs29.length = Ty.u8.parts.length := hA29.len; simp only [Ty.parts, List.length_nil] at h8; have h9 : sizeLine = 16777216 := rfl; omega, ?_⟩
      refine TyAll.e0 hA29 fun eV4 => ?_
      subst eV4
      refine Rest2.zero ?_
      unfold LCg.FinA
      intro D4 h4 tk4 F8 N8 o8
      simp only [List.nil_append] at N8
      k_steps
      (try dsimp only)
      repeat' (k_unfold; (try dsimp only))
      refine StepR.next F8 (nsub (l' := (D4, listOf (vs39).toArray (vs39).length) :: (x109.ext ++ (x109.news ++ (tl ++ (tl29 ++ tl39))))) N8 (by walk_at "m:in")) (n' := dep t'.parts) (by rw [hk]; have := Ty.parts_dep t'; show dep t'.parts < t'.depth; omega) ⟨D4, t'.parts, vs39, (vs39).length, lvl + 1, mny + 2, _, _, (tl ++ (tl29 ++ tl39)), ⟨rfl, rfl, rfl, rfl, rfl, (hA39), (ordA ho (ordA (ordS hl29 (by walk_at "m:in")) (ordS hl39 (by walk_at "m:in")))), Ty.parts_shape _, Ty.parts_ok hok1, by have := Ty.parts_dep t'; omega, by omega, by omega, by omega, by omega⟩⟩
theorem is_too_great_tells (w : World) (p : Program) (loose : List Str) (mean : ExcName → Option Value) (mg mb : Str → Option Value) (t : Ty) :
    TellsX PySem.Challenge.rw_xw0159_01.row.prog w (hd.heap_1 w.params) p loose mean mg mb 109 greatT t := cut_is (C := cut109) (by delta x109; rfl) is_too_great_tells_b w p loose mean mg mb t
end Mine
end SP4
/-! P5 -/
section SP5
open PySem.Spec PySem.Calls
namespace Mine

noncomputable def Ty.params : Ty → List Str
  | .bool | .u8 => []
  | .par x => [x]
  | .box t | .rf _ t | .arr _ t | .tup1 t | .tup2 t | .adtS t | .adtR _ t => t.params
inductive StrsOut (news : List (Addr × Obj)) (r : Value) (xs : List Str) : Prop
  | mk (l : Addr) (n : Nat) (vs : List Value) : r = .ref l → (l, listOf vs.toArray n) ∈ news → StrAll vs xs → StrsOut news r xs
noncomputable abbrev paramsT : ToldX Ty where
  Rel := fun _ news vs t => OneTy news vs t ∧ t.ok
  size := fun _ => 2
  Out := fun news r t => StrsOut news r t.params
set_option hygiene false in
local macro_rules | `(tactic| walk_at "execs cons") => `(tactic| (k_here; (try k_gentoks); (try k_fold); (with_reducible refine execsN ?_)))
local macro_rules | `(tactic| walk_at "m:mem") => `(tactic| first | assumption | exact List.Mem.head _ | (with_reducible refine memTail ?_; walk_at "m:mem") | (with_reducible refine memR ?_; walk_at "m:mem") | (with_reducible refine memL ?_; walk_at "m:mem"))
local macro_rules | `(tactic| k_mem) => `(tactic| walk_at "m:mem")
local macro_rules | `(tactic| walk_at "exec While") => `(tactic| (k_here; (with_reducible show wpAny _ _ (exec (Stmt.While _ _ _ _) _) _ _ _); refine Halt.go ?_))
local macro_rules | `(tactic| walk_at "exec While Compare cons nil") => `(tactic| (k_here; (with_reducible show wpAny _ _ (exec (Stmt.While _ _ _ _) _) _ _ _); refine Halt.go ?_))
local macro_rules | `(tactic| walk_at "call builtin:list.pop") => `(tactic| (k_here; refine Halt.go ?_))
local macro_rules | `(tactic| walk_at "call builtin:list.append") => `(tactic| (k_here; refine Halt.go ?_))
local macro_rules | `(tactic| walk_at "call builtin:list.extend") => `(tactic| (k_here; refine Halt.go ?_))
local macro_rules | `(tactic| walk_at "subscriptTail Name Slice ref ref") => `(tactic| (k_here; refine Halt.go ?_))
local macro_rules | `(tactic| walk_at "compareOp NotEq ref ref") => `(tactic| (k_here; refine Halt.go ?_))
local macro_rules | `(tactic| walk_at "call ref") => `(tactic| (k_here; (with_reducible show wpAny _ _ (call (Value.ref _) _) _ _ _); refine Halt.go ?_))
local macro_rules | `(tactic| walk_at "subscriptTail") => `(tactic| (k_here; (with_reducible show wpAny _ _ (subscriptTail _ _ (Value.ref _) (Value.int 0 _)) _ _ _); k_dflt (refine item0 (by k_asm) (by k_mem) ?_)))
local macro_rules | `(tactic| walk_at "m:el") => `(tactic| with_reducible first | exact memHead | (refine memTail ?_; walk_at "m:el") | (refine memR ?_; walk_at "m:el") | (refine memL ?_; walk_at "m:el"))
local macro_rules | `(tactic| walk_at "m:in") => `(tactic| with_reducible first | assumption | exact subRefl | exact subNil | (refine subCons ?_ ?_; (walk_at "m:el"); (walk_at "m:in")) | (refine subApp ?_ ?_; (walk_at "m:in"); (walk_at "m:in")) | (refine subTail ?_; walk_at "m:in") | (refine subR ?_; walk_at "m:in") | (refine subL ?_; walk_at "m:in"))

theorem Ty.params_parts {t : Ty} (h : ¬ ∃ x, t = .par x) : (t.parts = [] ∧ t.params = []) ∨ (∃ t', t.parts = [t'] ∧ t.params = t'.params) ∨ (∃ t', t.parts = [.u8, t'] ∧ t.params = t'.params) := by
  cases t <;> simp_all [Ty.parts, Ty.params]
structure ParJ (t : Ty) (ext news : List (Addr × Obj)) (k : Nat) (m₁ : Str → Option Value) (news₁ : List (Addr × Obj)) (ll lf : Addr) (ts : List Ty) (vs fs : List Value) (xs : List Str) (nl nf : Nat) (tl : List (Addr × Obj)) : Prop where
  h1 : m₁ (Str.ofString "left") = some (.ref ll)
  h2 : m₁ (Str.ofString "found") = some (.ref lf)
  hn : news₁ = (ll, listOf vs.toArray nl) :: (lf, listOf fs.toArray nf) :: (ext ++ (news ++ tl))
  hne : lf ≠ ll
  ha1 : ∀ q ∈ ext ++ (news ++ tl), q.1 ≠ ll
  ha2 : ∀ q ∈ ext ++ (news ++ tl), q.1 ≠ lf
  hlf : ∀ q ∈ ext ++ news, q.1 < lf
  hA : TyAll (news ++ tl) vs ts
  hF : StrAll fs xs
  ho : ∀ q ∈ ext ++ news, ∀ p ∈ tl, q.1 < p.1
  hs : (ts = [] ∧ k = 0 ∧ xs = t.params) ∨ (∃ t', ts = [t'] ∧ k = 2 * t'.depth ∧ xs = [] ∧ t.params = t'.params ∧ t'.ok) ∨ (∃ t', ts = [t', .u8] ∧ k = 2 * t'.depth + 1 ∧ xs = [] ∧ t.params = t'.params ∧ t'.ok)

theorem upd2 {m : Str → Option Value} {a b : Str} {x y : Value} (ha : m a = some x) (hb : m b = some y) :
    m = fun k => if k = a then some x else if k = b then some y else m k := by
  funext k
  split
  · rename_i h; rw [h]; exact ha
  · split
    · rename_i h; rw [h]; exact hb
    · rfl
inductive ParI (t : Ty) (ext news : List (Addr × Obj)) (k : Nat) (m₁ : Str → Option Value) (news₁ : List (Addr × Obj)) : Prop
  | mk (ll lf : Addr) (ts : List Ty) (vs fs : List Value) (xs : List Str) (nl nf : Nat) (tl : List (Addr × Obj)) (h : ParJ t ext news k m₁ news₁ ll lf ts vs fs xs nl nf tl)
set_option maxHeartbeats 8000000 in
noncomputable def cut92 : Cut (∀ (w : World) (p : Program) (loose : List Str) (mean : ExcName → Option Value) (mg mb : Str → Option Value) (t : Ty), TellsX PySem.Challenge.rw_xw0159_01.row.prog w (hd.heap_1 w.params) p loose mean mg mb 92 paramsT t) := by
  refine' ⟨_, fun kP w p loose mean mg mb t => ?use⟩
  case use =>
    unfold TellsX
    k_fill
    intro dp un gd cn cs a ccd cl outer A₀ base h₀ L m ext news s vs Q E B F X N T hk hR hdp hun hret
    obtain ⟨hR, hok⟩ := hR
    cases hR
    rename_i v hR
    dsimp only [paramsT] at hdp hun
    refine wpAny_call ?_
    k_dflt (refine' code_def ?k1 ?k2 ?k3 ?k4 ?k5 ?kA ?kF ?kK ?k6 ?k7 ?k8 ?k9 ?kB ?_ ?c2 ?c3 ?c4 ?c5; (case kA => exact rfl); (case kF => exact rfl); (case kK => assumption); (case k1 => k_asm); (case k2 => k_asm); (case k3 => k_asm); (case k4 => k_asm); (case k5 => k_asm); (case k6 => k_is); (case k7 => k_is); (case k8 => ktr_room); (case k9 => exact BindsTo.of_eq rfl); (case c5 => decide); (case kB => exact locs rfl); (case c2 => exact rfl); (case c3 => exact rfl); (case c4 => exact rfl); k_whole; intro g' L' h' FG' F' N' B' X' T')
    revert FG' F' N' B' X' T'
    revert hret
    revert hun
    revert hdp
    revert hok
    revert hR
    revert B F X N T hk
    revert t v
    exact kP w p loose mean mg mb dp un gd cn cs a ccd cl outer A₀ base h₀ L m ext news s Q E g' L' h'
@[irreducible] noncomputable def x92 : Pt := pick pt0 fun x => x.at cut92.P
set_option maxHeartbeats 8000000 in
theorem params_in_tells_b : x92.at cut92.P := by
  intro t v B F X N T hk hR hok hdp hun hret FG' F' N' B' X' T'
  (try dsimp only)
  (try k_fold)
  have hc := cLine_is
  k_steps
  refine Halt.mk ?_
  rename_i lf hx5 lx1 hx4 hx3 ll hx2 lx0 hx1 F1 N1
  have lx2 : ∀ q ∈ x92.ext ++ x92.news, q.1 < lf := by first | exact lx1 | exact ktn_ltOf lx1
  have lx3 : ∀ q ∈ x92.ext ++ x92.news, q.1 < ll := by first | exact lt1 lx0 | exact ktn_ltOf lx0.2
  have lx4 : lf < ll := by first | exact lx0.1 | exact lx0 _ (.head _)
  refine While_invR (h₀ := x92.g) (L := x92.L') (ParI t x92.ext x92.news) (n₀ := 2 * t.depth) F1 (nsub (l' := (ll, listOf [v].toArray 0) :: (lf, listOf [].toArray 0) :: (x92.ext ++ (x92.news ++ []))) N1 (by walk_at "m:in")) ⟨ll, lf, [t], [v], [], [], 0, 0, [], ⟨rfl, rfl, rfl, Nat.ne_of_lt lx4, fun q hq => Nat.ne_of_lt (lx3 q (by simpa using hq)), fun q hq => Nat.ne_of_lt (lx2 q (by simpa using hq)), lx2, .cons (hR.mono (by walk_at "m:in")) .nil, .nil, ord0, .inr (.inl ⟨t, rfl, rfl, rfl, rfl, hok⟩)⟩⟩ ?_
  intro k m₁ news₁ h₁ tk₁ F2 N2 hJ9
  (try k_fold)
  obtain ⟨ll, lf, ts, vs, fs, xs, nl, nf, tl, ⟨h1, h2, hn, hne, ha1, ha2, hlf, hA, hF, ho, hs⟩⟩ := hJ9
  rw [upd2 h1 h2] at F2
  rw [hn] at N2
  have hroom : ∀ d : Nat, x92.un + 3 + min d 1 < cLine := fun d => by have := Nat.min_le_right d 1; omega
  rcases hs with ⟨rfl, rfl, rfl⟩ | ⟨t', rfl, rfl, rfl, hp, hok'⟩ | ⟨t', rfl, rfl, rfl, hp, hok'⟩
  · refine TyAll.e0 hA fun eV1 => ?_
    subst eV1
    k_steps
    refine Halt.mk ?_
    rename News _ _ _ _ => N3
    refine SeqAt.compareNe_reads (da := .list []) (db := .list []) (readsList (N3 _ (.tail _ (.head _))).1 .nil) (readsList (N3 _ (.head _)).1 .nil) rfl rfl (hroom _) ?_
    simp only [PyData.eqv, PyData.eqvAll, Bool.not_true]
    k_steps
    exact hret _ ((lf, listOf fs.toArray nf) :: tl) _ _ (by k_asm) (nsub (by k_asm) (by walk_at "m:in")) (ordA (t1 := [(lf, listOf fs.toArray nf)]) (od1 hlf) ho) ⟨lf, nf, fs, rfl, memR (.head _), hF⟩
  · refine TyAll.e1 hA fun v9 eV2 hv9 => ?_
    subst eV2
    cases hF
    have hpos := Ty.depth_pos t'
    by_cases hpar : ∃ x, t' = .par x
    · obtain ⟨x, rfl⟩ := hpar
      have hv0 := hv9
      cases hv9
      k_steps
      refine Halt.mk ?_
      rename News _ _ _ _ => N3
      refine SeqAt.compareNe_reads (da := .list [(Ty.par x).data]) (db := .list []) (readsList (N3 _ (.tail _ (.head _))).1 (readsCons (hv0.reads (nsub N3 (by walk_at "m:in"))) .nil)) (readsList (N3 _ (.head _)).1 .nil) (by simpa using Ty.list_canLay (ts := [.par x]) (by simp [hok'])) rfl (hroom _) ?_
      simp only [PyData.eqv, PyData.eqvAll, Bool.not_false]
      k_steps
      refine Halt.mk ?_
      rename Fr _ _ _ _ => F4
      rename News _ _ _ _ => N4
      k_dflt (refine my_pop (vs := []) ((lf, listOf [].toArray nf) :: (x92.ext ++ (x92.news ++ tl))) F4 N4 (by k_mem) (by walk_at "m:in") (by
        intro q hq
        rcases List.mem_cons.mp hq with rfl | hq
        · exact hne
        · exact ha1 q hq) (by show 1 ≤ sizeLine; decide) ?_)
      intro h5 F5 N5
      k_steps
      all_goals (try (exfalso; exact Bool.false_ne_true (by assumption); done))
      refine Halt.mk ?_
      rename Fr _ _ _ _ => F4
      rename News _ _ _ _ => N4
      k_dflt (refine my_append (vs := []) ((ll, listOf [].toArray (nl + 1)) :: (x92.ext ++ (x92.news ++ tl))) F4 N4 (by k_mem) (by walk_at "m:in") (by
        intro q hq
        rcases List.mem_cons.mp hq with rfl | hq
        · exact fun e => hne e.symm
        · exact ha2 q hq) (by show 0 ≤ sizeLine; decide) ?_)
      intro h7 F7 N7
      simp only [List.nil_append] at N7
      k_steps
      refine Halt.mk ?_
      rename Fr _ _ _ _ => F6
      rename News _ _ _ _ => N6
      k_dflt (refine' tellsX_use (c := partsT) (d := Ty.par x) (x92.news ++ tl) ?k1 ?k2 ?k3 ?k4 ?k5 ?kK (parts_of_tells _ _ _ _ _ _ _) ?hs ?kR ?kd ?ku ?_)
      (((case k1 => k_asm); (case k2 => k_asm); (case k3 => k_asm); (case k4 => k_asm); (case k5 => k_asm); (case kK => first | exact rfl | assumption)))
      case hs => walk_at "m:in"
      case kd => exact bud hdp (Nat.le_of_ble_eq_true rfl)
      case ku => exact bud hun (Nat.le_of_ble_eq_true rfl)
      case kR => exact .mk hv0
      intro r9 tl9 h9 tk9 F9 N9 hl9 ho9
      obtain ⟨a9, n9, vs9, rfl, hm9, hA9⟩ := ho9
      dsimp only [Ty.parts] at hA9
      simp only [List.cons_append, List.append_assoc] at N9 hm9 hA9
      refine TyAll.e0 hA9 fun eV3 => ?_
      subst eV3
      k_steps
      refine Halt.mk ?_
      k_dflt (refine slice_tuple_rev (xs := []) (n := n9) (by k_asm) (by k_asm) (memTail (memTail (memR hm9))) (by decide) ?_)
      intro D8 h8 F8 N8 l8
      k_steps
      refine Halt.mk ?_
      have e8 : ∀ q ∈ x92.ext ++ (x92.news ++ (tl ++ tl9)), q.1 ≠ ll := by
        intro q hq
        rw [← List.append_assoc, ← List.append_assoc] at hq
        rcases List.mem_append.mp hq with hq | hq
        · exact ha1 q (by simpa [List.append_assoc] using hq)
        · exact Nat.ne_of_gt (hl9 _ (.tail _ (.head _)) q hq)
      have e9 : ∀ q ∈ x92.ext ++ (x92.news ++ (tl ++ tl9)), q.1 ≠ lf := by
        intro q hq
        rw [← List.append_assoc, ← List.append_assoc] at hq
        rcases List.mem_append.mp hq with hq | hq
        · exact ha2 q (by simpa [List.append_assoc] using hq)
        · exact Nat.ne_of_gt (hl9 _ (.head _) q hq)
      k_dflt (refine my_extend (vs := []) (ws := []) (n2 := 0) ((lf, listOf [Value.str x _].toArray (nf + 1)) :: (x92.ext ++ (x92.news ++ (tl ++ tl9)))) (by k_asm) N8 (memTail (memTail (.head _))) (N8 _ (.head _)).1 (by walk_at "m:in") (by
        intro q hq
        rcases List.mem_cons.mp hq with rfl | hq
        · exact hne
        · exact e8 q hq) (by decide) ?_)
      intro hA nA FA NA
      simp only [List.append_nil] at NA
      k_steps
      (try dsimp only)
      repeat' (k_unfold; (try dsimp only))
      refine StepR.next FA (nsub (l' := (ll, listOf [].toArray nA) :: (lf, listOf [Value.str x _].toArray (nf + 1)) :: (x92.ext ++ (x92.news ++ (tl ++ tl9)))) NA (by walk_at "m:in")) (n' := 0) (by omega) ⟨ll, lf, [], [], [.str x _], [x], nA, nf + 1, tl ++ tl9, ⟨rfl, rfl, rfl, hne, e8, e9, hlf, .nil, .cons .nil, ordA ho (ordS hl9 (by walk_at "m:in")), .inl ⟨rfl, rfl, by rw [hp]; rfl⟩⟩⟩
    · obtain ⟨a1, tk1, rest1, n1, rfl, hm1⟩ := hv9.head
      have hkind : (t'.kind == ("param" : Str)) = false := by cases t' <;> first | rfl | decide | exact absurd ⟨_, rfl⟩ hpar
      k_steps
      refine Halt.mk ?_
      rename News _ _ _ _ => N3
      refine SeqAt.compareNe_reads (da := .list [t'.data]) (db := .list []) (readsList (N3 _ (.tail _ (.head _))).1 (readsCons (hv9.reads (nsub N3 (by walk_at "m:in"))) .nil)) (readsList (N3 _ (.head _)).1 .nil) (by simpa using Ty.list_canLay (ts := [t']) (by simp [hok'])) rfl (hroom _) ?_
      simp only [PyData.eqv, PyData.eqvAll, Bool.not_false]
      k_steps
      refine Halt.mk ?_
      rename Fr _ _ _ _ => F4
      rename News _ _ _ _ => N4
      k_dflt (refine my_pop (vs := []) ((lf, listOf [].toArray nf) :: (x92.ext ++ (x92.news ++ tl))) F4 N4 (by k_mem) (by walk_at "m:in") (by
        intro q hq
        rcases List.mem_cons.mp hq with rfl | hq
        · exact hne
        · exact ha1 q hq) (by show 1 ≤ sizeLine; decide) ?_)
      intro h5 F5 N5
      k_steps
      refine Halt.mk ?_
      k_dflt (refine' tellsX_use (c := partsT) (d := t') (x92.news ++ tl) ?k1 ?k2 ?k3 ?k4 ?k5 ?kK (parts_of_tells _ _ _ _ _ _ _) ?hs ?kR ?kd ?ku ?_)
      (((case k1 => k_asm); (case k2 => k_asm); (case k3 => k_asm); (case k4 => k_asm); (case k5 => k_asm); (case kK => first | exact rfl | assumption)))
      case hs => walk_at "m:in"
      case kd => exact bud hdp (Nat.le_of_ble_eq_true rfl)
      case ku => exact bud hun (Nat.le_of_ble_eq_true rfl)
      case kR => exact .mk hv9
      intro r9 tl9 h9 tk9 F9 N9 hl9 ho9
      obtain ⟨a9, n9, vs9, rfl, hm9, hA9⟩ := ho9
      simp only [List.cons_append, List.append_assoc] at N9 hm9 hA9
      have e8 : ∀ q ∈ x92.ext ++ (x92.news ++ (tl ++ tl9)), q.1 ≠ ll := by
        intro q hq
        rw [← List.append_assoc, ← List.append_assoc] at hq
        rcases List.mem_append.mp hq with hq | hq
        · exact ha1 q (by simpa [List.append_assoc] using hq)
        · exact Nat.ne_of_gt (hl9 _ (.head _) q hq)
      have e9 : ∀ q ∈ x92.ext ++ (x92.news ++ (tl ++ tl9)), q.1 ≠ lf := by
        intro q hq
        rw [← List.append_assoc, ← List.append_assoc] at hq
        rcases List.mem_append.mp hq with hq | hq
        · exact ha2 q (by simpa [List.append_assoc] using hq)
        · exact Nat.ne_of_gt (hl9 _ (.tail _ (.head _)) q hq)
      rcases Ty.params_parts hpar with ⟨ep, eq⟩ | ⟨t2, ep, eq⟩ | ⟨t2, ep, eq⟩
      · have hdp2 := Ty.depth_pos t'
        rw [ep] at hA9
        refine TyAll.e0 hA9 fun eV4 => ?_
        subst eV4
        k_steps
        refine Halt.mk ?_
        k_dflt (refine slice_tuple_rev (xs := []) (n := n9) (by k_asm) (by k_asm) (memTail (memTail (memR hm9))) (Nat.le_of_ble_eq_true rfl) ?_)
        intro D8 h8 F8 N8 l8
        simp only [List.reverse_cons, List.reverse_nil, List.nil_append, List.cons_append] at N8
        k_steps
        refine Halt.mk ?_
        k_dflt (refine my_extend (vs := []) (ws := []) (n2 := 0) ((lf, listOf [].toArray nf) :: (x92.ext ++ (x92.news ++ (tl ++ tl9)))) (by k_asm) N8 (memTail (.head _)) (N8 _ (.head _)).1 (by walk_at "m:in") (by
          intro q hq
          rcases List.mem_cons.mp hq with rfl | hq
          · exact hne
          · exact e8 q hq) (by show 0 ≤ sizeLine; decide) ?_)
        intro hA nA FA NA
        simp only [List.append_nil, List.nil_append] at NA
        k_steps
        (try dsimp only)
        repeat' (k_unfold; (try dsimp only))
        refine StepR.next FA (nsub (l' := (ll, listOf [].toArray nA) :: (lf, listOf [].toArray nf) :: (x92.ext ++ (x92.news ++ (tl ++ tl9)))) NA (by walk_at "m:in")) (n' := 0) (by omega) ⟨ll, lf, _, [], [], [], nA, nf, tl ++ tl9, ⟨rfl, rfl, rfl, hne, e8, e9, hlf, .nil, .nil, ordA ho (ordS hl9 (by walk_at "m:in")), .inl ⟨rfl, rfl, by rw [hp, eq]⟩⟩⟩
      · have hdp2 := Ty.parts_depth (t := t') (t' := t2) (by rw [ep]; simp)
        have hok2 := Ty.parts_ok hok' t2 (by rw [ep]; simp)
        rw [ep] at hA9
        refine TyAll.e1 hA9 fun v8 eV5 hv8 => ?_
        subst eV5
        k_steps
        refine Halt.mk ?_
        k_dflt (refine slice_tuple_rev (xs := [v8]) (n := n9) (by k_asm) (by k_asm) (memTail (memTail (memR hm9))) (Nat.le_of_ble_eq_true rfl) ?_)
        intro D8 h8 F8 N8 l8
        simp only [List.reverse_cons, List.reverse_nil, List.nil_append, List.cons_append] at N8
        k_steps
        refine Halt.mk ?_
        k_dflt (refine my_extend (vs := []) (ws := [v8]) (n2 := 0) ((lf, listOf [].toArray nf) :: (x92.ext ++ (x92.news ++ (tl ++ tl9)))) (by k_asm) N8 (memTail (.head _)) (N8 _ (.head _)).1 (by walk_at "m:in") (by
          intro q hq
          rcases List.mem_cons.mp hq with rfl | hq
          · exact hne
          · exact e8 q hq) (by show 1 ≤ sizeLine; decide) ?_)
        intro hA nA FA NA
        simp only [List.append_nil, List.nil_append] at NA
        k_steps
        (try dsimp only)
        repeat' (k_unfold; (try dsimp only))
        refine StepR.next FA (nsub (l' := (ll, listOf [v8].toArray nA) :: (lf, listOf [].toArray nf) :: (x92.ext ++ (x92.news ++ (tl ++ tl9)))) NA (by walk_at "m:in")) (n' := 2 * t2.depth) (by omega) ⟨ll, lf, _, [v8], [], [], nA, nf, tl ++ tl9, ⟨rfl, rfl, rfl, hne, e8, e9, hlf, (.cons hv8 .nil), .nil, ordA ho (ordS hl9 (by walk_at "m:in")), .inr (.inl ⟨t2, rfl, rfl, rfl, by rw [hp, eq], hok2⟩)⟩⟩
      · have hdp2 := Ty.parts_depth (t := t') (t' := t2) (by rw [ep]; simp)
        have hok2 := Ty.parts_ok hok' t2 (by rw [ep]; simp)
        rw [ep] at hA9
        refine TyAll.e2 hA9 fun v8 v7 eV6 hv8 hv7 => ?_
        subst eV6
        k_steps
        refine Halt.mk ?_
        k_dflt (refine slice_tuple_rev (xs := [v8, v7]) (n := n9) (by k_asm) (by k_asm) (memTail (memTail (memR hm9))) (Nat.le_of_ble_eq_true rfl) ?_)
        intro D8 h8 F8 N8 l8
        simp only [List.reverse_cons, List.reverse_nil, List.nil_append, List.cons_append] at N8
        k_steps
        refine Halt.mk ?_
        k_dflt (refine my_extend (vs := []) (ws := [v7, v8]) (n2 := 0) ((lf, listOf [].toArray nf) :: (x92.ext ++ (x92.news ++ (tl ++ tl9)))) (by k_asm) N8 (memTail (.head _)) (N8 _ (.head _)).1 (by walk_at "m:in") (by
          intro q hq
          rcases List.mem_cons.mp hq with rfl | hq
          · exact hne
          · exact e8 q hq) (by show 2 ≤ sizeLine; decide) ?_)
        intro hA nA FA NA
        simp only [List.append_nil, List.nil_append] at NA
        k_steps
        (try dsimp only)
        repeat' (k_unfold; (try dsimp only))
        refine StepR.next FA (nsub (l' := (ll, listOf [v7, v8].toArray nA) :: (lf, listOf [].toArray nf) :: (x92.ext ++ (x92.news ++ (tl ++ tl9)))) NA (by walk_at "m:in")) (n' := 2 * t2.depth + 1) (by omega) ⟨ll, lf, _, [v7, v8], [], [], nA, nf, tl ++ tl9, ⟨rfl, rfl, rfl, hne, e8, e9, hlf, (.cons hv7 (.cons hv8 .nil)), .nil, ordA ho (ordS hl9 (by walk_at "m:in")), .inr (.inr ⟨t2, rfl, rfl, rfl, by rw [hp, eq], hok2⟩)⟩⟩
  · refine TyAll.e2 hA fun v9 v8 eV7 hv9 hv8 => ?_
    subst eV7
    cases hF
    have hu8 := hv8
    cases hv8
    · k_steps
      refine Halt.mk ?_
      rename News _ _ _ _ => N3
      refine SeqAt.compareNe_reads (da := .list [t'.data, Ty.u8.data]) (db := .list []) (readsList (N3 _ (.tail _ (.head _))).1 (readsCons (hv9.reads (nsub N3 (by walk_at "m:in"))) (readsCons (hu8.reads (nsub N3 (by walk_at "m:in"))) .nil))) (readsList (N3 _ (.head _)).1 .nil) (by simpa using Ty.list_canLay (ts := [t', .u8]) (by simp [hok', Ty.ok])) rfl (hroom _) ?_
      simp only [PyData.eqv, PyData.eqvAll, Bool.not_false]
      k_steps
      refine Halt.mk ?_
      rename Fr _ _ _ _ => F4
      rename News _ _ _ _ => N4
      k_dflt (refine my_pop (vs := [v9]) ((lf, listOf [].toArray nf) :: (x92.ext ++ (x92.news ++ tl))) F4 N4 (by k_mem) (by walk_at "m:in") (by
        intro q hq
        rcases List.mem_cons.mp hq with rfl | hq
        · exact hne
        · exact ha1 q hq) (by show 2 ≤ sizeLine; decide) ?_)
      intro h5 F5 N5
      k_steps
      refine Halt.mk ?_
      k_dflt (refine' tellsX_use (c := partsT) (d := .u8) (x92.news ++ tl) ?k1 ?k2 ?k3 ?k4 ?k5 ?kK (parts_of_tells _ _ _ _ _ _ _) ?hs ?kR ?kd ?ku ?_)
      (((case k1 => k_asm); (case k2 => k_asm); (case k3 => k_asm); (case k4 => k_asm); (case k5 => k_asm); (case kK => first | exact rfl | assumption)))
      case hs => walk_at "m:in"
      case kd => exact bud hdp (Nat.le_of_ble_eq_true rfl)
      case ku => exact bud hun (Nat.le_of_ble_eq_true rfl)
      case kR => exact .mk hu8
      intro r9 tl9 h9 tk9 F9 N9 hl9 ho9
      obtain ⟨a9, n9, vs9, rfl, hm9, hA9⟩ := ho9
      simp only [List.cons_append, List.append_assoc] at N9 hm9 hA9
      have e8 : ∀ q ∈ x92.ext ++ (x92.news ++ (tl ++ tl9)), q.1 ≠ ll := by
        intro q hq
        rw [← List.append_assoc, ← List.append_assoc] at hq
        rcases List.mem_append.mp hq with hq | hq
        · exact ha1 q (by simpa [List.append_assoc] using hq)
        · exact Nat.ne_of_gt (hl9 _ (.head _) q hq)
      have e9 : ∀ q ∈ x92.ext ++ (x92.news ++ (tl ++ tl9)), q.1 ≠ lf := by
        intro q hq
        rw [← List.append_assoc, ← List.append_assoc] at hq
        rcases List.mem_append.mp hq with hq | hq
        · exact ha2 q (by simpa [List.append_assoc] using hq)
        · exact Nat.ne_of_gt (hl9 _ (.tail _ (.head _)) q hq)
      have e7 : ([] : List Ty) = Ty.u8.parts := rfl
      rw [← e7] at hA9
      refine TyAll.e0 hA9 fun eV8 => ?_
      subst eV8
      k_steps
      refine Halt.mk ?_
      k_dflt (refine slice_tuple_rev (xs := []) (n := n9) (by k_asm) (by k_asm) (memTail (memTail (memR hm9))) (Nat.le_of_ble_eq_true rfl) ?_)
      intro D8 h8 F8 N8 l8
      simp only [List.reverse_cons, List.reverse_nil, List.nil_append, List.cons_append] at N8
      k_steps
      refine Halt.mk ?_
      k_dflt (refine my_extend (vs := [v9]) (ws := []) (n2 := 0) ((lf, listOf [].toArray nf) :: (x92.ext ++ (x92.news ++ (tl ++ tl9)))) (by k_asm) N8 (memTail (.head _)) (N8 _ (.head _)).1 (by walk_at "m:in") (by
        intro q hq
        rcases List.mem_cons.mp hq with rfl | hq
        · exact hne
        · exact e8 q hq) (by show 1 ≤ sizeLine; decide) ?_)
      intro hA nA FA NA
      simp only [List.append_nil, List.nil_append] at NA
      k_steps
      (try dsimp only)
      repeat' (k_unfold; (try dsimp only))
      refine StepR.next FA (nsub (l' := (ll, listOf [v9].toArray nA) :: (lf, listOf [].toArray nf) :: (x92.ext ++ (x92.news ++ (tl ++ tl9)))) NA (by walk_at "m:in")) (n' := 2 * t'.depth) (by omega) ⟨ll, lf, _, [v9], [], [], nA, nf, tl ++ tl9, ⟨rfl, rfl, rfl, hne, e8, e9, hlf, (.cons (hv9.mono (by walk_at "m:in")) .nil), .nil, ordA ho (ordS hl9 (by walk_at "m:in")), .inr (.inl ⟨t', rfl, rfl, rfl, hp, hok'⟩)⟩⟩
theorem params_in_tells (w : World) (p : Program) (loose : List Str) (mean : ExcName → Option Value) (mg mb : Str → Option Value) (t : Ty) :
    TellsX PySem.Challenge.rw_xw0159_01.row.prog w (hd.heap_1 w.params) p loose mean mg mb 92 paramsT t := cut_is (C := cut92) (by delta x92; rfl) params_in_tells_b w p loose mean mg mb t
end Mine
end SP5
/-! L12 -/
section SL12
open PySem.Spec PySem.Calls
namespace Mine
/-! an object of the class TypeFault, whose __init__ is its base's own -/
noncomputable abbrev faultMro : List Value := [.ref 39, .type "Exception", .type "BaseException", .type "object"]
noncomputable abbrev faultCls : Obj := excClassObj (Str.ofString "TypeFault") (Str.ofString "TypeFault") 52 51 [.ref 39] faultMro true [] [] false none none (some (.ref 43)) none (some (.str (Str.ofString "TypeFault") 228)) (some (.str (Str.ofString "TypeFault") 236)) (some (.bool true)) "Exception.__new__"
theorem fault_there {w : World} {h : Heap} (X : (hd.heap_1 w.params).In h) : h.get? 52 = some faultCls := X 52 _ rfl
section
variable {prog : Program} {w : World} {A : Around} {E : Value → Shared → Prop} {h : Heap} {g : Array GenState} {d : Drawn} {t : Nat} {os : OsState}
theorem fault_sub {base : Value} {b : Bool} (hC : h.get? 52 = some faultCls) (hb : (Value.ref 52 :: faultMro).contains base = b) {M : Model} {Q : Bool → Shared → Prop} (q : Q b ⟨h, g, d, t, os⟩) : wpAny M A (isSubtype (.ref 52) base) Q E ⟨h, g, d, t, os⟩ := by
  refine wpAny_isSubtype_exc hC ?_
  rw [hb]; exact q
theorem fault_check_new {rest : List Value} {M : Model} {Q : Unit → Shared → Prop} (hC : h.get? 52 = some faultCls) (hq : Q () ⟨h, g, d, t, os⟩) : wpAny M A (checkBuiltinCall "Exception.__new__" ⟨.ref 52 :: rest, []⟩) Q E ⟨h, g, d, t, os⟩ := by
  have F := PySem.F.excBase_Exception
  have hcont : (Value.ref 52 :: faultMro).contains (.type "Exception") = true := by decide +kernel
  have hstar := F.noStar
  simp only [checkBuiltinCall, F.newKind, F.newSplit, F.newRow]
  repeat (first | refine wpAny_loadPart_at hC ?_ | (refine wpAny_isSubtype_exc hC ?_; rw [hcont]) | refine wpAny_staticBase_exc hC ?_ | refine wpAny_madeBy_exc hC ?_ | simp only [bne_self_eq_false, Bool.false_eq_true, if_false] | wp_step)
  exact hq
noncomputable abbrev excO (t : Addr) (d : Option Addr) : Obj := { cls := .ref 52, dict := d, data := .fields #[.ref t, .none, .none, .none, .bool false, .none] }
theorem fault_new {rest : List Value} {R : Result → Shared → Prop} (hC : h.get? 52 = some faultCls) (hrest : rest.length ≤ sizeLine)
    (hq : R (.ok (.ret (.ref (h.objs.size + 1)))) ⟨(h.push { cls := .type "tuple", data := .seq rest.toArray }).push (excO h.objs.size none), g, d, t, os⟩) :
    codeAny (model prog w) A (.builtin "Exception.__new__" ⟨.ref 52 :: rest, []⟩) R ⟨h, g, d, t, os⟩ := by
  have F := PySem.F.excBase_Exception
  have hends := F.ends
  have hcB : (Value.ref 52 :: faultMro).contains (.type "Exception") = true := by decide +kernel
  have hcA : (Value.ref 52 :: faultMro).contains (.type "AttributeError") = false := by decide +kernel
  have hcN : (Value.ref 52 :: faultMro).contains (.type "NameError") = false := by decide +kernel
  refine codeAny_builtinAt F.entry ?_
  unfold Builtin.«BaseException.__new__»
  refine PySem.wpAt_bind ?_
  show PySem.wpAt _ _ _ (stack >>= _) _ _ _
  refine PySem.wpAt_bind (PySem.wpAt_stack fun p below => PySem.wpAt_of_wpAny ?_)
  wp_walk
  refine PySem.wpAt_of_wpAny ?_
  rw [F.owner]
  repeat (first | with_reducible refine wpAny_madeHere_exc F.canon hC ?_ | with_reducible refine wpAny_loadPart_at hC ?_ | (with_reducible refine wpAny_isSubtype_exc hC ?_; first | rw [hcB] | rw [hcA] | rw [hcN]) | wp_step)
  show R _ _
  rw [Heap.size_push]
  exact hq
theorem fault_call {rest : List Value} {Q : Value → Shared → Prop} (X : (hd.heap_1 w.params).In h) (hrest : rest.length ≤ sizeLine)
    (hq : codeAny (model prog w) (A.under (.builtin "type.__call__" ⟨.ref 52 :: rest, []⟩)) (.call (.ref 36) ⟨.ref (h.objs.size + 1) :: rest, []⟩) (InitBack (h.objs.size + 1) (wants Q E)) ⟨(h.push { cls := .type "tuple", data := .seq rest.toArray }).push (excO h.objs.size none), g, d, t, os⟩) :
    wpAny (model prog w) A (call (.ref 52) rest) Q E ⟨h, g, d, t, os⟩ := by
  have hC := fault_there X
  have f1 := tc_lookup
  have f2 := tc_bind (.ref 52)
  have hT : (⟨h, g, d, t, os⟩ : Shared).TypeIs (.ref 52) "type" := ⟨_, hC, rfl⟩
  have F := PySem.F.excBase_Exception
  refine wpAny_call (codeAny_of_tree ?_)
  show wpAny _ _ (callAny (.ref 52) _) _ _ _
  repeat (any_goals (first | assumption | with_reducible refine wpAny_loadPart_at hC ?_ | wp_step))
  refine ⟨rfl, ?_⟩
  refine codeAny_call_builtin_at (Code.quiet_builtin _ (by decide +kernel)) entry_typeCall (wpAny_check_type_call_sub hC ?_)
  repeat (first | with_reducible refine wpAny_loadPart_at hC ?_ | with_reducible refine wpAny_madeBy_exc hC ?_ | wp_step)
  refine codeAny_call_builtin_code (Code.quiet_builtin _ F.quiet) (fault_check_new hC ?_)
  refine fault_new hC hrest ?_
  show wpAny _ _ _ _ _ _
  have k : ∀ b o, h.get? b = some o → ((h.push { cls := .type "tuple", data := .seq rest.toArray }).push (excO h.objs.size none)).get? b = some o := fun b o e => Heap.get?_push_of_some _ (Heap.get?_push_of_some _ e)
  have hget : ((h.push { cls := .type "tuple", data := .seq rest.toArray }).push (excO h.objs.size none)).get? (h.objs.size + 1) = some (excO h.objs.size none) := by heap_get
  have hcC : (Value.ref 52 :: faultMro).contains (.ref 52) = true := by decide +kernel
  have hC1 := k _ _ hC
  unfold isInstance
  repeat (first | with_reducible refine wpAny_loadPart_at hget ?_ | (with_reducible refine wpAny_isSubtype_exc hC1 ?_; rw [hcC]) | wp_step)
  show wpAny _ _ (isSubtype (.ref 52) (.ref 52)) _ _ _
  refine fault_sub hC1 hcC ?_
  show wpAny _ _ (holding [Value.ref (h.objs.size + 1)] (callSpecial? (.ref (h.objs.size + 1)) (Str.ofString "__init__") rest) >>= _) _ _ _
  refine wpAny_bind (wpAny_holding ?_)
  have I : InstAt ((h.push { cls := .type "tuple", data := .seq rest.toArray }).push (excO h.objs.size none)) (h.objs.size + 1) (excO h.objs.size none) 52 none := ⟨hget, rfl, rfl, trivial⟩
  refine special_fn (K := hd.heap_1 w.params) (s := ⟨(h.push { cls := .type "tuple", data := .seq rest.toArray }).push (excO h.objs.size none), g, d, t, os⟩) (X.keeps k) I (f := 36) (by rfl) (by rfl) ?_
  refine wpAny_call (codeAny_mono hq fun r s' z => ?_)
  rcases r with e | (v | _ | _ | _) <;> first | exact z | exact z.elim | skip
  obtain ⟨rfl, z⟩ := z
  exact wpAny_pure z
end
section
variable {prog : Program} {w : World} {A : Around} {E : Value → Shared → Prop} {s : Shared} {h₀ : Heap} {L : Addr} {m : Str → Option Value} {all : List (Addr × Obj)}
theorem fault_check_init {e : Addr} {oe : Obj} {rest : List Value} {M : Model} {Q : Unit → Shared → Prop} {h : Heap} {g : Array GenState} {d : Drawn} {t : Nat} {os : OsState} (hC : h.get? 52 = some faultCls) (he : h.get? e = some oe) (hcls : oe.cls = .ref 52) (hq : Q () ⟨h, g, d, t, os⟩) :
    wpAny M A (checkBuiltinCall "Exception.__init__" ⟨.ref e :: rest, []⟩) Q E ⟨h, g, d, t, os⟩ := by
  have F := PySem.F.excBase_Exception
  have hcB : (Value.ref 52 :: faultMro).contains (.type "Exception") = true := by decide +kernel
  have hshort := F.noStar
  simp only [checkBuiltinCall, F.initKind, F.initSplit, F.initRow]
  repeat (first | (with_reducible refine wpAny_loadPart_at he ?_; rw [hcls]) | with_reducible refine wpAny_loadPart_at hC ?_ | (with_reducible refine wpAny_isSubtype_exc hC ?_; rw [hcB]) | wp_step)
  refine wpAny_onRaise ?_
  rw [show ∀ (a b : String) (n : Nat), Bind.check ⟨.positional, "*", "Exception", .self, [⟨"args", .varPos, false⟩]⟩ a b n (List.map (fun x => x.fst) ({ pos := Value.ref e :: rest } : Args).kw) = pure () from
    fun a b n => check_star_args _ _ _ _ _ _]
  exact wpAny_pure hq
theorem fault_init {e t : Addr} {rest : List Value} {Q : Value → Shared → Prop} (F : Fr h₀ L s.heap m) (N : News h₀ L s.heap ((e, excO t none) :: all)) (X : (hd.heap_1 w.params).In h₀) (hrest : rest.length ≤ sizeLine) (hne : ∀ p ∈ all, p.1 ≠ e)
    (h : ∀ t2 h', Fr h₀ L h' m → News h₀ L h' ((e, excO t2 none) :: (t2, tupO rest 0) :: all) → e < t2 → (∀ p ∈ all, p.1 < t2) → Q .none { s with heap := h' }) :
    wpAny (model prog w) A (call (.builtin "Exception.__init__") (.ref e :: rest)) Q E s := by
  obtain ⟨hh, g, d, tk, os⟩ := s
  have B := PySem.F.excBase_Exception
  have he := (N _ (.head _)).1
  have hC := fault_there (X.keeps F.keep)
  refine wpAny_call (codeAny_call_builtin B.init.plain B.initEntry (fault_check_init hC he rfl ?_))
  wp_walk
  have hlt := Heap.lt_size he
  have N1 := N.push F { cls := .type "tuple", data := .seq rest.toArray }
  have F1 := F.push { cls := .type "tuple", data := .seq rest.toArray }
  have hs : Heap.SameBut e (hh.push { cls := .type "tuple", data := .seq rest.toArray }) ((hh.push { cls := .type "tuple", data := .seq rest.toArray }).update e (Obj.mapFields fun x => x.setIfInBounds 0 (Value.ref hh.objs.size))) := Heap.SameBut.update ..
  have he1 := Heap.get?_update_self (Obj.mapFields fun x => x.setIfInBounds 0 (Value.ref hh.objs.size)) (Heap.get?_push_of_some { cls := .type "tuple", data := .seq rest.toArray } he) rfl
  refine h hh.objs.size _ (F1.change hs (N _ (.head _)).2.1 (N _ (.head _)).2.2) (fun p hp => ?_) hlt (fun p hp => Heap.lt_size (N p (.tail _ hp)).1)
  rcases List.mem_cons.mp hp with rfl | hp
  · exact ⟨he1, (N _ (.head _)).2⟩
  · rcases List.mem_cons.mp hp with rfl | hp
    · exact ⟨(hs.2 _ (Nat.ne_of_gt hlt)).trans (N1 _ (.head _)).1, (N1 _ (.head _)).2⟩
    · exact ⟨(hs.2 _ (hne p hp)).trans (N1 _ (.tail _ (.tail _ hp))).1, (N p (.tail _ hp)).2⟩
end
end Mine
end SL12
/-! L13 -/
section SL13
open PySem.Spec PySem.Calls
open Builtin Builtin.ObjectAttr
namespace Mine
theorem fault_sa {w : World} : findIn (hd.heap_1 w.params) (.ref 52) "__setattr__" = some (some (.builtin "object.__setattr__")) := by rfl
section
variable {prog : Program} {w : World} {A : Around} {E : Value → Shared → Prop} {s : Shared} {h₀ : Heap} {L : Addr} {m : Str → Option Value} {all : List (Addr × Obj)} {R : Result → Shared → Prop} {h : Heap} {g : Array GenState} {d : Drawn} {t : Nat} {os : OsState}
theorem fault_osa {e : Addr} {name : Str} {tk : Tok} {v : Value} {mA : Str → Option Value} {ns : List Str} (X : (hd.heap_1 w.params).In h) (ht : findIn (hd.heap_1 w.params) (.ref 52) name = some none) (I : h.Inst e 52 mA)
    (hq : ∀ h' tk', h'.Inst e 52 (fun y => if y = name then some v else mA y) →
      (∀ b o, b ≠ e → (∀ o₀ dx, h.get? e = some o₀ → o₀.dict = some dx → b ≠ dx) → h.get? b = some o → h'.get? b = some o) →
      (∀ o₀, h.get? e = some o₀ → ∃ dx, h'.get? e = some { o₀ with dict := some dx } ∧ (o₀.dict = some dx ∨ (o₀.dict = none ∧ dx = h.objs.size))) → R (.ok (.ret .none)) ⟨h', g, d, tk', os⟩) (hw : Within mA ns) (hsz : ns.length ≤ 1000) :
    codeAny (model prog w) A (.call (.builtin "object.__setattr__") ⟨[.ref e, .str name tk, v], []⟩) R ⟨h, g, d, t, os⟩ := by
  have SF := PySem.F.store_Exception
  obtain ⟨o, hx, hc, hnc, hd⟩ := I
  have hC := fault_there X
  have ty : Looks (model prog w) h (typeOf (.ref e)) (.ref 52) := hc ▸ (Looks.ld hx).andThen .now
  have sub : Looks (model prog w) h (isInstance (.ref e) (.type "object")) true := ty.andThen (looks_mroIn X (by rfl))
  refine codeAny_call_builtin SF.slot.plain SF.entry (@check_slot (model prog w) _ _ ⟨h, g, d, t, os⟩ "object.__setattr__" "object" "__setattr__" (.ref e) [.str name tk, v] [] _ SF.kind SF.split sub (SF.args (.ref e) (.str name tk) v) ?_)
  have hm : Looks (model prog w) h (mroOf (.ref 52)) (.ref 52 :: faultMro) := (looks_clsIn X (by rfl)).andThen .now
  have hpass := SF.passes (.ref e)
  rw [osa_eq, refuse_eq]
  refine wpAny_bind (wpAny_bind (ty.here (wpAny_bind (hm.here ?_))))
  rw [refuseLoop_ref, refuseLoop_ref, hpass]
  refine wpAny_pure (wpAny_bind (ty.here (wpAny_bind ((looks_findIn X ht).here (wpAny_bind (wpAny_pure ?_))))))
  show wpAny _ _ (storeInOwnDict (.ref e) (.ref 52) (.str name tk) name v false) _ _ _
  unfold storeInOwnDict
  repeat (first | (with_reducible refine wpAny_loadPart_at hx ?_; rw [hc]) | wp_step)
  rcases hd with ⟨hdn, hmA⟩ | ⟨dx, hdx, hne, hns⟩
  · rw [hdn]
    dsimp only
    rw [if_neg (by simp [typeHasDict])]
    split
    · rename_i c hcd
      exact absurd hcd (hnc c)
    · have hx₁ : (h.push { cls := .type "dict", data := .dict #[] }).get? e = some o := Heap.get?_push_of_some _ hx
      have hxs : e ≠ h.objs.size := Nat.ne_of_lt (Heap.lt_size hx)
      refine wpAny_bind (wpAny_alloc' ?_)
      refine wpAny_bind (wpAny_update' hx₁ ?_)
      refine wpAny_pure ?_
      have hgd : ((h.push { cls := .type "dict", data := .dict #[] }).update e fun o => { cls := o.cls, dict := some h.objs.size, data := o.data, slots := o.slots }).get? h.objs.size
          = some { cls := .type "dict", data := .dict #[] } :=
        (Heap.get?_update_ne _ _ _ _ hxs.symm).trans (Heap.get?_push_at rfl rfl)
      have hnd : ((h.push { cls := .type "dict", data := .dict #[] }).update e fun o => { cls := o.cls, dict := some h.objs.size, data := o.data, slots := o.slots }).Ns h.objs.size (fun _ => none) :=
        ⟨_, #[], _, hgd, rfl, fun x hx => absurd hx (by simp), fun _ => rfl⟩
      show wpAny _ _ (storeInDict h.objs.size (.str name tk) name v) _ _ _
      unfold storeInDict newKeyGuard
      refine wpAny_bind (wpAny_pure (wpAny_bind (wpAny_nsSet1 (Heap.Ns1.of_empty hnd) fun h' hn' hs => ?_)))
      obtain ⟨oD, esD, epD, hoD, hdD, hcD⟩ := hn'.count (Within.cons name v Within.nil)
      refine wpAny_bind (wpAny_lookBehind hoD (by rw [hdD]; exact pastItsLine_dict (Nat.le_trans hcD (by rw [List.length_cons, List.length_nil, sizeLine_eq]; omega))) ?_)
      wp_walk
      have hx' : h'.get? e = some { cls := o.cls, dict := some h.objs.size, data := o.data, slots := o.slots } := by
        refine (hs.2 e hxs).trans (Heap.get?_update_self _ hx₁ ?_)
        have hfr := (Heap.get?_some_iff.mp hx).2
        obtain ⟨oc, od, odt, osl⟩ := o
        cases odt <;> first | rfl | exact hfr
      refine hq h' _ ⟨{ cls := o.cls, dict := some h.objs.size, data := o.data, slots := o.slots }, hx', hc, hnc, .inr ⟨h.objs.size, rfl, hxs.symm, ?_⟩⟩ (fun b ob hbx _ hb => ?_)
        (fun o₀ h₀ => by obtain rfl : o = o₀ := Option.some.inj (hx.symm.trans h₀); exact ⟨_, hx', .inr ⟨hdn, rfl⟩⟩)
      · obtain ⟨o', es, ep, e1, e2, e3, eu, e4⟩ := hn'
        exact ⟨o', es, ep, e1, e2, e3, eu, fun y => by rw [e4 y]; by_cases hy : y = name <;> simp [hy, hmA]⟩
      · exact (hs.2 b (Nat.ne_of_lt (Heap.lt_size hb))).trans ((Heap.get?_update_ne _ _ _ _ hbx).trans (Heap.get?_push_of_some _ hb))
  · rw [hdx]
    refine wpAny_pure ?_
    show wpAny _ _ (storeInDict dx (.str name tk) name v) _ _ _
    unfold storeInDict newKeyGuard
    refine wpAny_bind (wpAny_pure (wpAny_bind (wpAny_nsSet1 hns fun h' hn' hs => ?_)))
    obtain ⟨oD, esD, epD, hoD, hdD, hcD⟩ := hn'.count (Within.cons name v hw)
    refine wpAny_bind (wpAny_lookBehind hoD (by rw [hdD]; exact pastItsLine_dict (Nat.le_trans hcD (by rw [List.length_cons, sizeLine_eq]; omega))) ?_)
    wp_walk
    refine hq h' _ ⟨o, (hs.2 e hne.symm).trans hx, hc, hnc, .inr ⟨dx, hdx, hne, hn'⟩⟩ (fun b ob _ hbd hb => ?_)
      (fun o₀ h₀ => by obtain rfl : o = o₀ := Option.some.inj (hx.symm.trans h₀); exact ⟨dx, ((hs.2 e hne.symm).trans h₀).trans (by rw [← hdx]), .inl hdx⟩)
    exact (hs.2 b (hbd o dx hx hdx)).trans hb
theorem fault_set {e : Addr} {name : Str} {v : Value} {mA : Str → Option Value} {ns : List Str} {Q : Unit → Shared → Prop} (X : (hd.heap_1 w.params).In h) (ht : findIn (hd.heap_1 w.params) (.ref 52) name = some none) (I : h.Inst e 52 mA)
    (hq : ∀ h' tk', h'.Inst e 52 (fun y => if y = name then some v else mA y) →
      (∀ b o, b ≠ e → (∀ o₀ dx, h.get? e = some o₀ → o₀.dict = some dx → b ≠ dx) → h.get? b = some o → h'.get? b = some o) →
      (∀ o₀, h.get? e = some o₀ → ∃ dx, h'.get? e = some { o₀ with dict := some dx } ∧ (o₀.dict = some dx ∨ (o₀.dict = none ∧ dx = h.objs.size))) → Q () ⟨h', g, d, tk', os⟩) (hw : Within mA ns) (hsz : ns.length ≤ 1000) :
    wpAny (model prog w) A (setAttr (.ref e) name v) Q E ⟨h, g, d, t, os⟩ := by
  have ty : Looks (model prog w) h (typeOf (.ref e)) (.ref 52) := by
    obtain ⟨o, hx, hc, _⟩ := id I
    exact hc ▸ (Looks.ld hx).andThen .now
  refine wpAny_bind (wpAny_mkText (wpAny_bind (wpAny_bind (wpAny_bind (ty _ _ _ _ (fun _ _ e => e) (looks_findIn X fault_sa _ _ _ _ (fun _ _ e => e) (wpAny_holding ?_)))))))
  rw [PySem.F.store_object.slot.bind]
  refine wpAny_bind (wpAny_pure (wpAny_bind (wpAny_call (codeAny_mono (fault_osa (R := fun r s' => match r with | .ok (.ret _) => Q () s' | .ok _ => False | .error e => E e s') X ht I hq hw hsz) fun r s' z => ?_))))
  rcases r with e | (v | _ | _ | _) <;> first | exact z | exact wpAny_pure (wpAny_pure z)
/-- the exception at e, its own dict aside of the ledger -/
structure FaultAt (h₀ : Heap) (L : Addr) (h : Heap) (e t : Addr) (all : List (Addr × Obj)) : Prop where
  at_ : ∃ dx mA ns, h.get? e = some (excO t (some dx)) ∧ dx ≠ e ∧ h.Ns1 dx mA ∧ Within mA ns ∧ ns.length ≤ 10 ∧ dx ≠ L ∧ h₀.get? dx = none ∧ ∀ p ∈ all, p.1 ≠ dx
  ne : ∀ p ∈ all, p.1 ≠ e
  neL : e ≠ L
  new : h₀.get? e = none
/-- the first store makes the dict -/
theorem fault_set1 {e t : Addr} {name : Str} {v : Value} {Q : Unit → Shared → Prop} (F : Fr h₀ L s.heap m) (N : News h₀ L s.heap ((e, excO t none) :: all)) (hne : ∀ p ∈ all, p.1 ≠ e) (X : (hd.heap_1 w.params).In h₀) (ht : findIn (hd.heap_1 w.params) (.ref 52) name = some none)
    (hq : ∀ h' tk', Fr h₀ L h' m → News h₀ L h' all → FaultAt h₀ L h' e t all → Q () { s with heap := h', toks := tk' }) :
    wpAny (model prog w) A (setAttr (.ref e) name v) Q E s := by
  obtain ⟨h, g, d, tk, os⟩ := s
  have he := (N _ (.head _)).1
  refine fault_set (mA := fun _ => none) (ns := []) (X.keeps F.keep) ht ⟨_, he, rfl, (fun c e => nomatch e), .inl ⟨rfl, fun _ => rfl⟩⟩ (fun h' tk' I k1 k2 => ?_) Within.nil (by simp)
  obtain ⟨dx, hx, hdx⟩ := k2 _ he
  have hdx' : dx = h.objs.size := by rcases hdx with q | q; cases q; exact q.2
  subst hdx'
  have keep : ∀ b o, b ≠ e → h.get? b = some o → h'.get? b = some o := fun b o hb ho => k1 b o hb (fun o₀ dx e1 e2 => by rw [he] at e1; cases e1; cases e2) ho
  obtain ⟨o', ho', _, _, hd'⟩ := I
  rw [hx] at ho'
  obtain rfl := Option.some.inj ho'
  have ns : h.objs.size ≠ e ∧ h'.Ns1 h.objs.size (fun y => if y = name then some v else none) := by
    rcases hd' with ⟨q, _⟩ | ⟨d', q, q1, q2⟩
    · cases q
    · cases q; exact ⟨q1, q2⟩
  refine hq h' tk' ⟨F.ns.at fun o ho => keep _ _ (Ne.symm (N _ (.head _)).2.1) ho, fun b o ho => keep b o (fun q => by rw [q, (N _ (.head _)).2.2] at ho; cases ho) (F.keep b o ho), F.above⟩
    (fun p hp => ⟨keep _ _ (hne p hp) (N p (.tail _ hp)).1, (N p (.tail _ hp)).2⟩) ⟨⟨_, _, [name], hx, ns.1, ns.2, Within.cons name v Within.nil, by simp, Nat.ne_of_gt F.ns.lt, F.fresh, fun p hp => Nat.ne_of_lt (Heap.lt_size (N p (.tail _ hp)).1)⟩, hne, (N _ (.head _)).2.1, (N _ (.head _)).2.2⟩
theorem fault_set2 {e t : Addr} {name : Str} {v : Value} {Q : Unit → Shared → Prop} (F : Fr h₀ L s.heap m) (N : News h₀ L s.heap all) (Y : FaultAt h₀ L s.heap e t all) (X : (hd.heap_1 w.params).In h₀) (ht : findIn (hd.heap_1 w.params) (.ref 52) name = some none)
    (hq : ∀ h' tk' dz, Fr h₀ L h' m → News h₀ L h' ((e, excO t (some dz)) :: all) → Q () { s with heap := h', toks := tk' }) :
    wpAny (model prog w) A (setAttr (.ref e) name v) Q E s := by
  obtain ⟨h, g, d, tk, os⟩ := s
  obtain ⟨⟨dx, mA, ns, he, hne, hns, hw, hsz, hdL, hd0, hda⟩, hea, heL, he0⟩ := Y
  refine fault_set (mA := mA) (ns := ns) (X.keeps F.keep) ht ⟨_, he, rfl, (fun c e => nomatch e), .inr ⟨dx, rfl, hne, hns⟩⟩ (fun h' tk' I k1 k2 => ?_) hw (by omega)
  obtain ⟨dy, hx, hdy⟩ := k2 _ he
  have keep : ∀ b o, b ≠ e → b ≠ dx → h.get? b = some o → h'.get? b = some o := fun b o hb hbd ho => k1 b o hb (fun o₀ dz e1 e2 => by rw [he] at e1; cases e1; cases e2; exact hbd) ho
  exact hq h' tk' dy ⟨F.ns.at fun o ho => keep _ _ (Ne.symm heL) (Ne.symm hdL) ho, fun b o ho => keep b o (fun q => by rw [q, he0] at ho; cases ho) (fun q => by rw [q, hd0] at ho; cases ho) (F.keep b o ho), F.above⟩
    (fun p hp => by
      rcases List.mem_cons.mp hp with rfl | hp
      · exact ⟨hx, heL, he0⟩
      · exact ⟨keep _ _ (hea p hp) (hda p hp) (N p hp).1, (N p hp).2⟩)
end
end Mine
end SL13
/-! P12 -/
section SP12
open PySem.Spec PySem.Calls
namespace Mine
theorem fault_call_N {w : World} {prog : Program} {A : Around} {E Q : Value → Shared → Prop} {s : Shared} {h₀ : Heap} {L : Addr} {m : Str → Option Value} {all : List (Addr × Obj)} {rest : List Value} (F : Fr h₀ L s.heap m) (N : News h₀ L s.heap all) (X : (hd.heap_1 w.params).In h₀) (hrest : rest.length ≤ sizeLine)
    (h : ∀ e t h', Fr h₀ L h' m → News h₀ L h' ((e, excO t none) :: (t, tupO rest 0) :: all) → (∀ p ∈ all, p.1 < t) → t < e →
      codeAny (model prog w) (A.under (.builtin "type.__call__" ⟨.ref 52 :: rest, []⟩)) (.call (.ref 36) ⟨.ref e :: rest, []⟩) (InitBack e (wants Q E)) { s with heap := h' }) :
    wpAny (model prog w) A (call (.ref 52) rest) Q E s := by
  obtain ⟨hh, g, d, t, os⟩ := s
  refine fault_call (X.keeps F.keep) hrest (h _ hh.objs.size _ ((F.push _).push _) ?_ (fun p hp => Heap.lt_size (N p hp).1) (Nat.lt_succ_self _))
  have := (N.push F { cls := .type "tuple", data := .seq rest.toArray }).push (F.push _) (excO hh.objs.size none)
  rwa [Heap.size_push] at this
theorem meta_Exception : typeOf (.type "Exception") = pure (.type "type") := by kernel_rfl
set_option hygiene false in
local macro_rules | `(tactic| walk_at "execs cons") => `(tactic| (k_here; (try k_gentoks); (try k_fold); (with_reducible refine execsN (s := s) ?_)))
local macro_rules | `(tactic| walk_at "getMethod type:Exception") => `(tactic| (k_here; refine Halt.go ?_))
local macro_rules | `(tactic| walk_at "m:mem") => `(tactic| first | assumption | exact List.Mem.head _ | (with_reducible refine memTail ?_; walk_at "m:mem") | (with_reducible refine memR ?_; walk_at "m:mem") | (with_reducible refine memL ?_; walk_at "m:mem"))
local macro_rules | `(tactic| k_mem) => `(tactic| walk_at "m:mem")
local macro_rules | `(tactic| walk_at "setAttr") => `(tactic| (k_here; refine Halt.go ?_))
set_option maxHeartbeats 1500000 in
theorem fault_tells (w : World) (p : Program) (loose : List Str) (mean : ExcName → Option Value) (mg mb : Str → Option Value) : ∀ (dp un : Nat) (gd : Option (List Code)) (cn : Str) (cs : Scope) (a : Addr) (ccd : Value) (cl : List (Str × Addr)) (outer : List Env) (A₀ : Around) (base h₀ : Heap) (L : Addr) (m : Str → Option Value) (all : List (Addr × Obj)) (s : Shared) (x : Str) (k : Tok)
    (Q E : Value → Shared → Prop) (B : Below A₀ base outer h₀) (F : Fr h₀ L s.heap m) (X : (hd.heap_1 w.params).In h₀) (N : News h₀ L s.heap all) (T : Top p loose mean mg mb h₀) (hk : cs.kind = .function) (hdp : dp + 3 < recursionLimit) (hun : un + 16 < cLine)
    (hret : ∀ e t dz h' tk', Fr h₀ L h' m → News h₀ L h' ((e, excO t (some dz)) :: (t, tupO [.str x k] 0) :: all) → (∀ p ∈ all, p.1 < e ∧ p.1 < t) → Q (.ref e) { s with heap := h', toks := tk' }),
    wpAny (model PySem.Challenge.rw_xw0159_01.row.prog w) (ktrTop dp un gd cn cs L a ccd cl outer) (call (.ref 52) [.str x k]) Q E s := by
  k_fill
  intro dp un gd cn cs a ccd cl outer A₀ base h₀ L m all s x k Q E B F X N T hk hdp hun hret
  have hc := cLine_is
  refine fault_call_N F N X (by show 1 ≤ sizeLine; decide) ?_
  intro e t h1 F1 N1 l1 l2
  k_dflt (refine' code_def (binds := [(Str.ofString "self", .ref e), (Str.ofString "message", .str x k), (Str.ofString "spot", .int 0 208)]) ?k1 ?k2 ?k3 ?k4 ?k5 ?kA ?kF ?kK ?k6 ?k7 ?k8 ?k9 ?kB ?_ ?c2 ?c3 ?c4 ?c5)
  case kA => exact rfl
  case kF => exact rfl
  case kK => assumption
  case k1 => k_asm
  case k2 => k_asm
  case k3 => k_asm
  case k4 => k_asm
  case k5 => k_asm
  case k6 => k_is
  case k7 => k_is
  case k8 => ktr_room
  case k9 => exact binds_K (by k_in) rfl (by k_is) rfl rfl rfl
  case c5 => decide
  case kB => exact locs rfl
  case c2 => exact rfl
  case c3 => exact rfl
  case c4 => exact rfl
  k_whole
  intro g' L' h' FG' F' N' B' X' T'
  (try dsimp only)
  (try k_fold)
  k_steps
  refine Halt.mk ?_
  (refine' method_type ?F ?X ?m (by decide +kernel) ?e ?h ?_; (case F => k_asm); (case X => k_asm); (case m => exact meta_Exception); (case e => k_dflt k_is); (case h => k_handed))
  k_steps
  k_dflt (refine fault_init (by k_asm) N' (by k_asm) (by show 1 ≤ sizeLine; decide) ?hne ?_)
  case hne =>
    intro p hp
    rcases List.mem_cons.mp hp with rfl | hp
    · exact Nat.ne_of_lt l2
    · exact Nat.ne_of_lt (Nat.lt_trans (l1 p hp) l2)
  intro t2 h2 F2 N2 l3 l4
  k_steps
  refine Halt.mk ?_
  k_dflt (refine fault_set1 (by k_asm) N2 ?hne (by k_asm) (by rfl) ?_)
  case hne =>
    intro p hp
    rcases List.mem_cons.mp hp with rfl | hp
    · exact Nat.ne_of_gt l3
    · rcases List.mem_cons.mp hp with rfl | hp
      · exact Nat.ne_of_lt l2
      · exact Nat.ne_of_lt (Nat.lt_trans (l1 p hp) l2)
  intro h3 tk3 F3 N3 Y3
  k_steps
  refine Halt.mk ?_
  k_dflt (refine fault_set2 (by k_asm) (by k_asm) Y3 (by k_asm) (by rfl) ?_)
  intro h4 tk4 dz F4 N4
  k_steps
  exact hret e t2 dz h4 tk4 (by k_asm) (nsub (by k_asm) (fun p hp => by
    rcases List.mem_cons.mp hp with rfl | hp
    · exact .head _
    · rcases List.mem_cons.mp hp with rfl | hp
      · exact .tail _ (.head _)
      · exact .tail _ (.tail _ (.tail _ hp)))) (fun p hp => ⟨Nat.lt_trans (l1 p hp) l2, Nat.lt_trans (Nat.lt_trans (l1 p hp) l2) l3⟩)
/-! the raise, and the way out of the frame -/
section
variable {prog : Program} {w : World} {A : Around} {E : Value → Shared → Prop} {s : Shared} {env : Env}
theorem fault_raise {x : Sem Value} {Q : Flow → Shared → Prop} (hh : A.handled = none)
    (h : wpAny (model prog w) A x (fun v s₁ => ∃ e t d, v = .ref e ∧ s₁.heap.get? 52 = some faultCls ∧ s₁.heap.get? e = some (excO t d) ∧ E (.ref e) s₁) E s) :
    wpAny (model prog w) A (raiseStmt env (some x) none) Q E s := by
  have hcB : (Value.ref 52 :: faultMro).contains (.type "BaseException") = true := by decide +kernel
  unfold raiseStmt
  refine wpAny_bind (wpAny_mono h (fun v s₁ h₁ => ?_) fun _ _ x => x)
  obtain ⟨e, t, dz, rfl, hC, he, hE⟩ := h₁
  obtain ⟨hp, g, d, tk, os⟩ := s₁
  repeat (first | with_reducible refine wpAny_loadPart_at he ?_ | with_reducible refine wpAny_loadPart_at hC ?_ | (with_reducible refine wpAny_isSubtype_exc hC ?_; rw [hcB]) | wp_step)
  exact wpAny_raiseNew_none hh hE
theorem fault_Raise {x : Expr} {pos : Pos} {Q : Flow → Shared → Prop} (hh : A.handled = none)
    (h : wpAny (model prog w) A (eval x env) (fun v s₁ => ∃ e t d, v = .ref e ∧ s₁.heap.get? 52 = some faultCls ∧ s₁.heap.get? e = some (excO t d) ∧ E (.ref e) s₁) E s) :
    wpAny (model prog w) A (exec (.Raise (some x) none pos) env) Q E s := by
  rw [arm_exec_Raise]
  refine wpAny_bind (wpAny_standAt ?_)
  show wpAny (model prog w) A (raiseStmt env (some (do let v ← eval x env; standAt pos; pure v)) none) Q E s
  exact fault_raise hh (wpAny_bind (wpAny_mono h (fun v s₁ h₁ => wpAny_bind (wpAny_standAt (wpAny_pure h₁))) fun _ _ x => x))
end
section
variable {M : Model} {A : Around} {E : Value → Shared → Prop} {s' : Shared} {base g : Heap} {outer : List Env} {L a e t : Addr} {m : Str → Option Value} {name : Str} {scope : Scope} {cd : Value} {Q : Unit → Shared → Prop} {news : List (Addr × Obj)}
theorem pushG {A : Around} {base h₀ h : Heap} {outer : List Env} {L : Addr} {m : Str → Option Value} {env : Env}
    (K : Below A base outer h₀) (F : Fr h₀ L h m) (hf : env.frame = some L) (hk : env.scope.kind = .function) : Below (A.deeper env) base (env :: outer) h := by
  have hnew : base.get? L = none := by
    cases hq : base.get? L with
    | none => rfl
    | some o => exact absurd (Nat.lt_of_lt_of_le (Heap.lt_size (K.stays L o hq)) F.above) (Nat.lt_irrefl _)
  refine ⟨Around.frames_deeper K.stack, fun b o e => F.keep b o (K.stays b o e), ?_⟩
  exact .cons (by rw [hk]; decide) hf F.ns hnew (K.frames.of_keeps fun b o e _ => ⟨o, F.keep b o e, rfl⟩)
theorem kts_memG {env0 : Env} {L b : Addr} {outer : List Env} (hf0 : env0.frame = some L) (hm : b ∈ (env0 :: outer).filterMap (·.frame)) : b = L ∨ b ∈ outer.filterMap (·.frame) := by
  obtain ⟨env, he, hf⟩ := List.mem_filterMap.mp hm
  rcases List.mem_cons.mp he with rfl | he
  · exact .inl (Option.some.inj (hf0.symm.trans hf)).symm
  · exact .inr (List.mem_filterMap.mpr ⟨env, he, hf⟩)
theorem leave_fault {env0 : Env} {vs : List Value} {n : Nat} {dz : Option Addr} (K : Below A base outer g) (F : Fr g L s'.heap m) (N : News g L s'.heap ((e, excO t dz) :: (t, tupO vs n) :: news)) (hne : ∀ p ∈ news, p.1 ≠ e ∧ p.1 ≠ t)
    (hQ : ∀ h', RaisedS base g outer e (.ref 52) t vs news h' → g.UpToSlots h' → Q () { s' with heap := h' }) (hf0 : env0.frame = some L := by rfl) (hk : env0.scope.kind = .function := by rfl) :
    wpAny M (A.deeper env0) (leaving env0 (.ref e)) Q E s' := by
  have K' := pushG K F hf0 hk
  have he := (N _ (.head _)).1
  have ht := (N _ (.tail _ (.head _))).1
  have e0 : g.get? e = none := (N _ (.head _)).2.2
  have t0 : g.get? t = none := (N _ (.tail _ (.head _))).2.2
  have hin : ∀ env ∈ (env0 :: outer), ∀ b, env.frame = some b → b ∈ e :: t :: (env0 :: outer).filterMap (·.frame) := fun env he b hb => .tail _ (.tail _ (List.mem_filterMap.mpr ⟨env, he, hb⟩))
  have st : base.StaysIn (hideAll s'.heap (e :: t :: (env0 :: outer).filterMap (·.frame))) := fun b o q => hideAll_get _ (K'.stays b o q) fun hm => by
    rcases List.mem_cons.mp hm with rfl | hm
    · rw [fresh_of_stays K.stays e0] at q; cases q
    · rcases List.mem_cons.mp hm with rfl | hm
      · rw [fresh_of_stays K.stays t0] at q; cases q
      · rw [(K'.frames.mem hm).1] at q; cases q
  have kself : env0.frame = some L := hf0
  have sg : ∀ b o, g.get? b = some o → b ∉ outer.filterMap (·.frame) → (hideAll s'.heap (e :: t :: (env0 :: outer).filterMap (·.frame))).get? b = some o := fun b o q nm => hideAll_get _ (F.keep b o q) fun hm => by
    rcases List.mem_cons.mp hm with rfl | hm
    · rw [e0] at q; cases q
    · rcases List.mem_cons.mp hm with rfl | hm
      · rw [t0] at q; cases q
      · rcases kts_memG hf0 hm with z | z
        · rw [z, kts_self F] at q
          cases q
        · exact nm z
  have hl : ∀ q ∈ news, (hideAll s'.heap (e :: t :: (env0 :: outer).filterMap (·.frame))).get? q.1 = some q.2 ∧ g.get? q.1 = none ∧ base.get? q.1 = none := fun q hq => by
    have Nq := N q (.tail _ (.tail _ hq))
    refine ⟨hideAll_get _ Nq.1 fun hm => ?_, Nq.2.2, fresh_of_stays K.stays Nq.2.2⟩
    rcases List.mem_cons.mp hm with z | hm
    · exact (hne q hq).1 z
    · rcases List.mem_cons.mp hm with z | hm
      · exact (hne q hq).2 z
      · obtain ⟨env, he, hf⟩ := List.mem_filterMap.mp hm
        rcases List.mem_cons.mp he with rfl | he
        · exact Nq.2.1 (Option.some.inj (hf0.symm.trans hf)).symm
        · obtain ⟨o, ho, _⟩ := (K.frames.mem (List.mem_filterMap.mpr ⟨env, he, hf⟩)).2
          rw [Nq.2.2] at ho; cases ho
  refine wpAny_leaving_firstW (a0 := .ref t) K'.stack (funFrames_hide K'.frames hin) hf0 he (fun b o q => of_hideAll _ q) (hideAll_none _ (.head _)) rfl rfl rfl fun h' hL => ?_
  obtain ⟨k1, ⟨_, _, k2⟩, k3, k4⟩ := hL
  exact hQ h' ⟨⟨_, st, sg, hl, ⟨k1, hideAll_none _ (.head _), k2, k3⟩, hideAll_none _ (.tail _ (.head _))⟩, Heap.TupAt.of_slots ⟨_, _, ht, rfl, rfl⟩ k4⟩ ((Heap.UpToSlots.of_keeps F.keep).trans k4)
end
end Mine
end SP12
/-! L15 -/
section SL15
open PySem.Spec PySem.Calls
namespace Mine
section
variable {prog : Program} {w : World} {A : Around} {E : Value → Shared → Prop} {s : Shared} {h₀ : Heap} {L l b : Addr} {m : Str → Option Value} {all rest core : List (Addr × Obj)} {vs ws : List Value} {n n2 : Nat} {v : Value} {Q : Value → Shared → Prop}
/-- extend by a list -/
theorem my_extendL (rest : List (Addr × Obj)) (F : Fr h₀ L s.heap m) (N : News h₀ L s.heap all) (hl : (l, listOf vs.toArray n) ∈ all) (hb : s.heap.get? b = some (listOf ws.toArray n2)) (hr : ∀ p ∈ rest, p ∈ all) (hne : ∀ p ∈ rest, p.1 ≠ l) (hz : vs.length + ws.length ≤ sizeLine)
    (h : ∀ h' n', Fr h₀ L h' m → News h₀ L h' ((l, listOf (vs ++ ws).toArray n') :: rest) → Q .none { s with heap := h' }) : wpAny (model prog w) A (call (.builtin "list.extend") [.ref l, .ref b]) Q E s := by
  have z := N _ hl
  refine call_meets PySem.F.slot_list_extend ⟨_, z.1, rfl⟩ PySem.F.entry_list_extend (PySem.F.args_list_extend_2 _ _) (PySem.AutoSeq1.list_extend_list_list_0 l vs.toArray n b ws.toArray n2 ?_ ?_ ?_)
    ⟨z.1, hb, h _ (if ((vs.toArray ++ ws.toArray).size == vs.toArray.size) = true then n else n + 1) (F.change (Heap.SameBut.update ..) z.2.1 z.2.2) ?_⟩
  · simp [Builtin.List.listTooLong]
    intro _
    omega
  · simp; omega
  · simp; omega
  · have q := PySem.IsL.update z.1 (fun x => x ++ ws.toArray)
    intro p hp
    rcases List.mem_cons.mp hp with rfl | hp
    · refine ⟨?_, z.2⟩
      rw [List.append_toArray] at q
      simpa using q
    · exact ⟨(Heap.get?_update_ne _ _ _ _ (hne p hp)).trans (N p (hr p hp)).1, (N p (hr p hp)).2⟩
theorem my_add {Q : Value → Shared → Prop} (F : Fr h₀ L s.heap m) (N : News h₀ L s.heap all) (hl : (l, listOf vs.toArray n) ∈ all) (hb : (b, listOf ws.toArray n2) ∈ all) (hz : vs.length + ws.length ≤ sizeLine)
    (h : ∀ d h', Fr h₀ L h' m → News h₀ L h' ((d, listOf (vs ++ ws).toArray 0) :: all) → (∀ p ∈ all, p.1 < d) → Q (.ref d) { s with heap := h' }) : wpAny (model prog w) A (binaryOp .Add (.ref l) (.ref b)) Q E s :=
  add_lists (hsz := hz) F N (my_isList N hl) (my_isList N hb) fun h' F' N' => h _ h' F' N' fun p hp => Heap.lt_size (N p hp).1
theorem TyAll.canLay {ts : List Ty} (h : ∀ t ∈ ts, t.ok) : PyData.canLayAll0 (ts.map Ty.data) = true := by
  induction ts with
  | nil => rfl
  | cons t r ih => simp [PyData.canLayAll0, Ty.data_canLay (h t (.head _)), ih fun t ht => h t (.tail _ ht)]
theorem my_notIn {ts : List Ty} {t : Ty} {Q : Value → Shared → Prop} (N : News h₀ L s.heap all) (hl : (l, listOf vs.toArray n) ∈ all) (hA : TyAll all vs ts) (hv : TyIn all v t) (hts : ∀ t ∈ ts, t.ok) (ht : t.ok) (hu : A.units + 1 + (2 * t.depth + 1) < cLine)
    (h : Q (.bool (decide (t ∉ ts))) s) : wpAny (model prog w) A (compareOp .NotIn v (.ref l)) Q E s := by
  refine SeqAt.notIn_list_reads (readsList (N _ hl).1 (hA.reads N)) (hv.reads N) (TyAll.canLay hts) (Ty.data_canLay ht) ?_ ?_
  · have h1 := Nat.min_le_right (PyData.depthAll (ts.map Ty.data)) t.data.depth
    have h2 := Ty.data_depth t
    omega
  · have e : (!(ts.map Ty.data).any fun y => PyData.eqv y t.data) = decide (t ∉ ts) := by
      rw [List.any_map]
      have e2 : ((fun y => PyData.eqv y t.data) ∘ Ty.data) = fun t' => decide (t' = t) := by
        funext t'
        exact Ty.eqv_data t' t
      rw [e2]
      by_cases hm : t ∈ ts
      · simp [hm]
      · simp only [hm, not_false_eq_true, decide_true, Bool.not_eq_true', List.any_eq_false, decide_eq_true_eq]
        exact fun x hx e => hm (e ▸ hx)
    rw [e]; exact h
end
end Mine
end SL15
/-! L16 -/
section SL16
open PySem.Spec PySem.Calls
namespace Mine
/-- a list of pairs of words -/
inductive PairAll (news : List (Addr × Obj)) : List Value → List (Str × Str) → Prop
  | nil : PairAll news [] []
  | cons {a : Addr} {x r : Str} {k k' : Tok} {n : Nat} {vs : List Value} {ps : List (Str × Str)} : (a, tupO [.str x k, .str r k'] n) ∈ news → PairAll news vs ps → PairAll news (.ref a :: vs) ((x, r) :: ps)
theorem PairAll.mono {news news' : List (Addr × Obj)} {vs : List Value} {ps : List (Str × Str)} (h : PairAll news vs ps) (hs : ∀ p ∈ news, p ∈ news') : PairAll news' vs ps := by
  induction h with
  | nil => exact .nil
  | cons a _ ih => exact .cons (hs _ a) ih
theorem PairAll.app {news : List (Addr × Obj)} {vs ws : List Value} {ps qs : List (Str × Str)} (h : PairAll news vs ps) (k : PairAll news ws qs) : PairAll news (vs ++ ws) (ps ++ qs) := by
  induction h with
  | nil => exact k
  | cons a _ ih => exact .cons a ih
theorem PairAll.len {news : List (Addr × Obj)} {vs : List Value} {ps : List (Str × Str)} (h : PairAll news vs ps) : vs.length = ps.length := by
  induction h with
  | nil => rfl
  | cons _ _ ih => simp [ih]
theorem StrAll.len {vs : List Value} {xs : List Str} (h : StrAll vs xs) : vs.length = xs.length := by
  induction h with
  | nil => rfl
  | cons _ ih => simp [ih]
theorem TyAll.append {news : List (Addr × Obj)} {vs ws : List Value} {ts us : List Ty} (h : TyAll news vs ts) (k : TyAll news ws us) : TyAll news (vs ++ ws) (ts ++ us) := by
  induction h with
  | nil => exact k
  | cons a _ ih => exact .cons a ih
theorem TyAll.splitLast {news : List (Addr × Obj)} {ts : List Ty} {t : Ty} : ∀ {vs : List Value}, TyAll news vs (ts ++ [t]) → ∃ ws v, vs = ws ++ [v] ∧ TyAll news ws ts ∧ TyIn news v t := by
  induction ts with
  | nil =>
    intro vs h
    cases h with
    | cons a b => cases b; exact ⟨[], _, rfl, .nil, a⟩
  | cons u r ih =>
    intro vs h
    cases h with
    | cons a b =>
      obtain ⟨ws, v, rfl, h1, h2⟩ := ih b
      exact ⟨_ :: ws, v, rfl, .cons a h1, h2⟩
section
variable {prog : Program} {w : World} {A : Around} {s : Shared} {h₀ : Heap} {L : Addr} {m : Str → Option Value} {env : Env}
inductive EltP (h₀ : Heap) (L : Addr) (m : Str → Option Value) (s₁ : Shared) (all : List (Addr × Obj)) (x r : Str) (y : Value) (s₂ : Shared) : Prop
  | of (a : Addr) (h' : Heap) (tk' : Nat) (k : Tok) (k' : Tok) (n : Nat) : y = .ref a → s₂ = { s₁ with heap := h', toks := tk' } → Fr h₀ L h' m → News h₀ L h' ((a, tupO [.str x k, .str r k'] n) :: all) → (∀ q ∈ all, q.1 < a) → EltP h₀ L m s₁ all x r y s₂
theorem compRest_pairs {elt : Expr} {x : Str} {scope : Scope} {cl : List (Str × Addr)} {S : List (Addr × Obj) → Prop} {Fin : List Value → List (Addr × Obj) → Prop} {base : List (Addr × Obj)} {vs0 : List Value} {xs0 : List Str} {r : Str} (hA : StrAll vs0 xs0)
    (step : ∀ x1 tk1 tl ys I oI C oC D m₂ h tk (E' : Value → Shared → Prop), LCg.NsObj oC m₂ → m₂ x = some (.str x1 tk1) → Fr h₀ L h m → News h₀ L h ((I, oI) :: (C, oC) :: (D, LCg.lst ys) :: (base ++ tl)) → LCg.Off3 I C D (base ++ tl) → ((@Ne Nat I C) ∧ (@Ne Nat I D) ∧ (@Ne Nat C D)) →
      wpAny (model prog w) A (eval elt (compEnvC scope cl C env)) (EltP h₀ L m { s with heap := h, toks := tk } ((I, oI) :: (C, oC) :: (D, LCg.lst ys) :: (base ++ tl)) x1 r) E' { s with heap := h, toks := tk })
    (hS : ∀ tl, S (base ++ tl))
    (fin : ∀ ys tl, (∀ q ∈ base, ∀ p ∈ tl, q.1 < p.1) → PairAll tl ys (xs0.map fun x => (x, r)) → Fin ys (base ++ tl)) :
    LCg.CompRest prog w A h₀ L m env elt x scope cl s S (fun i v => vs0.toArray[i]? = some v) Fin vs0.toArray.size 0 [] base := by
  have main : ∀ (vsr : List Value) (xsr : List Str) (vsd : List Value) (xsd : List Str) (ys : List Value) (tl : List (Addr × Obj)), vs0 = vsd ++ vsr → xs0 = xsd ++ xsr → StrAll vsr xsr → (∀ q ∈ base, ∀ p ∈ tl, q.1 < p.1) → PairAll tl ys (xsd.map fun x => (x, r)) →
      LCg.CompRest prog w A h₀ L m env elt x scope cl s S (fun i v => vs0.toArray[i]? = some v) Fin vsr.length vsd.length ys (base ++ tl) := by
    intro vsr
    induction vsr with
    | nil =>
      intro xsr vsd xsd ys tl hv hx hA ho hy
      cases hA
      refine LCg.CompRest.zero ?_
      rw [List.append_nil] at hx
      subst hx
      exact fin ys tl ho hy
    | cons v vsr ih =>
      intro xsr vsd xsd ys tl hv hx hA ho hy
      cases hA
      rename_i x1 tk1 xsr hA
      refine LCg.CompRest.succ ?_
      intro v' I oI C oC D m₂ h tk E' hP hNs hx2 F N off ne
      have e : v' = .str x1 tk1 := by
        subst hv
        simp at hP
        exact hP.symm
      subst e
      refine wpAny_mono (step x1 tk1 tl ys I oI C oC D m₂ h tk E' hNs hx2 F N off ne) (fun y s₂ hE => ?_) fun _ _ e => e
      obtain ⟨a, h', tk', k, k', n, rfl, rfl, F', N', o'⟩ := hE
      have off' : LCg.Off3 I C D (base ++ (tl ++ [(a, tupO [.str x1 k, .str r k'] n)])) := LCg.Off3.of fun p hp => by
        rw [← List.append_assoc] at hp
        rcases List.mem_append.mp hp with hp | hp
        · exact off.mem p hp
        · rw [List.mem_singleton.mp hp]
          exact ⟨Nat.ne_of_gt (o' (I, oI) (.head _)), Nat.ne_of_gt (o' (C, oC) (.tail _ (.head _))), Nat.ne_of_gt (o' (D, LCg.lst ys) (.tail _ (.tail _ (.head _))))⟩
      refine compEnd_mk F' (nsub N' (fun p hp => by simp at hp ⊢; rcases hp with h | h | h | h | h | h <;> simp [h])) off' (hS _) ?_
      have := ih xsr (vsd ++ [.str x1 tk1]) (xsd ++ [x1]) (ys ++ [.ref a]) (tl ++ [(a, tupO [.str x1 k, .str r k'] n)]) (by simp [hv]) (by simp [hx]) hA
        (ordA ho (fun q hq p hp => by rw [List.mem_singleton.mp hp]; exact o' q (.tail _ (.tail _ (.tail _ (memL hq))))))
        (by
          rw [List.map_append]
          exact (hy.mono fun p hp => memL hp).app (.cons (memR (.head _)) .nil))
      rw [List.length_append] at this
      exact this
  have := main vs0 xs0 [] [] [] [] rfl rfl hA (fun _ _ _ h => nomatch h) .nil
  simpa using this
end
end Mine
end SL16
/-! P10 -/
section SP10
open PySem.Spec PySem.Calls
namespace Mine
theorem Ty.mapR_ok {g : Str → Str} {t : Ty} (hg : ∀ x, PyData.strOk x = true → PyData.strOk (g x) = true) (h : t.ok) : (t.mapR g).ok := by
  induction t <;> simp_all [Ty.mapR, Ty.ok]
theorem Ty.subst_ok {x : Str} {u t : Ty} (hu : u.ok) (h : t.ok) : (Ty.subst x u t).ok := by
  induction t <;> simp_all [Ty.subst, Ty.ok]
  split
  · exact hu
  · exact h
theorem fieldOf_ok {inner u : Ty} {r : Str} (hi : inner.ok) (hr : PyData.strOk r = true) (hu : u.ok) : (fieldOf inner r u).ok := by
  refine Ty.subst_ok hu (Ty.mapR_ok (fun x hx => ?_) ⟨by decide +kernel, by decide +kernel, hi⟩)
  split
  · exact hr
  · exact hx
structure Bnd (found : List (Str × Str)) (ts met : List Ty) (here : Ty) (many : Nat) : Prop where
  hmany : many + 1 ≤ 4000
  hfound : found.length ≤ 100000
  hts : ts.length ≤ 100000
  hmet : met.length ≤ 100000
  hdepth : here.depth ≤ 220
  hok : here.ok
  hoks : ∀ t ∈ met, t.ok
noncomputable def Ty.plain : Ty → Prop
  | .rf _ _ | .adtR _ _ | .adtS _ => False
  | _ => True
/-- how implied goes, in k turns: what it has found, what is left (its last is next), what it has met -/
inductive RunN (inner : Ty) : Nat → List (Str × Str) → List Ty → List Ty → Nat → Option (List (Str × Str)) → Prop
  | done {found : List (Str × Str)} {met : List Ty} {many : Nat} : RunN inner 0 found [] met many (some found)
  | ref {k many : Nat} {found : List (Str × Str)} {ts met : List Ty} {r : Str} {t : Ty} {res : Option (List (Str × Str))} : Bnd found ts met (.rf r t) many →
      RunN inner k (found ++ (t.regs ++ t.params).map fun x => (x, r)) (ts ++ [t]) met (many + 1) res → RunN inner (k + 1) found (ts ++ [.rf r t]) met many res
  | plain {k many : Nat} {found : List (Str × Str)} {ts met : List Ty} {t : Ty} {res : Option (List (Str × Str))} : Bnd found ts met t many → t.plain →
      RunN inner k found (ts ++ t.parts.reverse) met (many + 1) res → RunN inner (k + 1) found (ts ++ [t]) met many res
  | old {k many : Nat} {found : List (Str × Str)} {ts met : List Ty} {r : Str} {u : Ty} {res : Option (List (Str × Str))} : Bnd found ts met (.adtR r u) many → Ty.adtR r u ∈ met →
      RunN inner k found (ts ++ [u]) met (many + 1) res → RunN inner (k + 1) found (ts ++ [.adtR r u]) met many res
  | new {k many : Nat} {found : List (Str × Str)} {ts met : List Ty} {r : Str} {u : Ty} {res : Option (List (Str × Str))} : Bnd found ts met (.adtR r u) many → Ty.adtR r u ∉ met → ¬ 200 < (Ty.adtR r u).depth →
      RunN inner k found (ts ++ [u] ++ [fieldOf inner r u]) (met ++ [.adtR r u]) (many + 1) res → RunN inner (k + 1) found (ts ++ [.adtR r u]) met many res
  | great {k many : Nat} {found : List (Str × Str)} {ts met : List Ty} {r : Str} {u : Ty} : Bnd found ts met (.adtR r u) many → Ty.adtR r u ∉ met → 200 < (Ty.adtR r u).depth → RunN inner (k + 1) found (ts ++ [.adtR r u]) met many none
noncomputable abbrev q80 : Str := Str.ofString "regions_in.<locals>.noted"
noncomputable abbrev q101 : Str := Str.ofString "fields_of.<locals>.put_in"
noncomputable def TellsI (prog : Program) (w : World) (K : Frag) (p : Program) (loose : List Str) (mean : ExcName → Option Value) (mg mb : Str → Option Value) (inner t0 : Ty) (res : Option (List (Str × Str))) : Prop :=
  ∀ (dp un : Nat) (gd : Option (List Code)) (cn : Str) (cs : Scope) (a : Addr) (ccd : Value) (cl : List (Str × Addr)) (outer : List Env) (A₀ : Around) (base h₀ : Heap) (L : Addr) (m : Str → Option Value) (ext news : List (Addr × Obj)) (s0 s1 : Option Addr) (s : Shared) (vt vx : Value)
    (Q E : Value → Shared → Prop),
    Below A₀ base outer h₀ → HypR base → HypF base → Fr h₀ L s.heap m → K.In h₀ → News h₀ L s.heap ((101, tabOf 72 4 s1) :: (80, tabOf 47 4 s0) :: (ext ++ news)) → (∀ p ∈ ext ++ news, p.1 ≠ 101) → (∀ p ∈ ext ++ news, p.1 ≠ 80) → Top p loose mean mg mb h₀ → cs.kind = .function →
    TyIn news vt t0 → WorldIn w news vx inner → TabOk q80 (ext ++ news) s0 → TabOk q101 (ext ++ news) s1 → t0.ok → inner.ok → (∃ k, RunN inner k [] [t0] [] 0 res) → inner.depth ≤ 60 → dp + 300 < recursionLimit → un + 2400 < cLine →
    (∀ found l n vs s0' s1' tl h' tk', res = some found → Fr h₀ L h' m → News h₀ L h' ((l, listOf vs.toArray n) :: (101, tabOf 72 4 s1') :: (80, tabOf 47 4 s0') :: (ext ++ (news ++ tl))) → PairAll (news ++ tl) vs found → TabOk q80 (ext ++ (news ++ tl)) s0' → TabOk q101 (ext ++ (news ++ tl)) s1' →
      (∀ q ∈ (101, tabOf 72 4 s1) :: (80, tabOf 47 4 s0) :: (ext ++ news), ∀ p ∈ (l, listOf vs.toArray n) :: tl, q.1 < p.1) → Q (.ref l) { s with heap := h', toks := tk' }) →
    (∀ e t vs G s0' s1' tl h' tk', res = none → Fr h₀ L G m → RaisedS base G (envX cn cs L a ccd cl :: outer) e (.ref 52) t vs ((101, tabOf 72 4 s1') :: (80, tabOf 47 4 s0') :: (ext ++ (news ++ tl))) h' → G.UpToSlots h' → TabOk q80 (ext ++ (news ++ tl)) s0' → TabOk q101 (ext ++ (news ++ tl)) s1' → (∀ q ∈ (101, tabOf 72 4 s1) :: (80, tabOf 47 4 s0) :: (ext ++ news), ∀ p ∈ tl, q.1 < p.1) → E (.ref e) { s with heap := h', toks := tk' }) →
    wpAny (model prog w) (ktrTop dp un gd cn cs L a ccd cl outer) (call (.ref 114) [vt, vx]) Q E s
/-- where the lists of implied lie -/
structure Lay (L lf ll lm : Addr) (X tl : List (Addr × Obj)) : Prop where
  h101 : @LT.lt Nat _ 101 L
  h80 : @LT.lt Nat _ 80 L
  hX : ∀ p ∈ X, p.1 < L
  h1 : @LT.lt Nat _ (L + 1) lf
  h2 : @LT.lt Nat _ lf ll
  h3 : @LT.lt Nat _ ll lm
  htl : ∀ p ∈ tl, lm < p.1
  hX1 : ∀ p ∈ X, p.1 ≠ 101
  hX0 : ∀ p ∈ X, p.1 ≠ 80
section
variable {L lf ll lm c : Addr} {ext news tl tl2 : List (Addr × Obj)}
theorem Lay.off (Y : Lay L lf ll lm (ext ++ news) tl) (h1 : @LE.le Nat _ L c) (h2 : @LE.le Nat _ c lm) : ∀ p ∈ ext ++ (news ++ tl), p.1 ≠ c := fun p hp => by
  rw [← List.append_assoc] at hp
  rcases List.mem_append.mp hp with hp | hp
  · exact Nat.ne_of_lt (Nat.lt_of_lt_of_le (Y.hX p hp) h1)
  · exact Nat.ne_of_gt (Nat.lt_of_le_of_lt h2 (Y.htl p hp))
theorem Lay.off101 (Y : Lay L lf ll lm (ext ++ news) tl) : ∀ p ∈ ext ++ (news ++ tl), p.1 ≠ 101 := fun p hp => by
  have a1 := Y.h1; have a2 := Y.h2; have a3 := Y.h3; have a4 := Y.h101
  rw [← List.append_assoc] at hp
  rcases List.mem_append.mp hp with hp | hp
  · exact Y.hX1 p hp
  · exact Nat.ne_of_gt (Nat.lt_trans (show @LT.lt Nat _ 101 lm by omega) (Y.htl p hp))
theorem Lay.off80 (Y : Lay L lf ll lm (ext ++ news) tl) : ∀ p ∈ ext ++ (news ++ tl), p.1 ≠ 80 := fun p hp => by
  have a1 := Y.h1; have a2 := Y.h2; have a3 := Y.h3; have a4 := Y.h80
  rw [← List.append_assoc] at hp
  rcases List.mem_append.mp hp with hp | hp
  · exact Y.hX0 p hp
  · exact Nat.ne_of_gt (Nat.lt_trans (show @LT.lt Nat _ 80 lm by omega) (Y.htl p hp))
theorem Lay.ord {o T0 T1 : Obj} (Y : Lay L lf ll lm (ext ++ news) tl) : ∀ q ∈ (101, T1) :: (80, T0) :: (ext ++ news), ∀ p ∈ (lf, o) :: tl, q.1 < p.1 := fun q hq p hp => by
  have a1 := Y.h1; have a2 := Y.h2; have a3 := Y.h3
  have hqL : @LT.lt Nat _ q.1 L := by
    rcases List.mem_cons.mp hq with rfl | hq
    · exact Y.h101
    · rcases List.mem_cons.mp hq with rfl | hq
      · exact Y.h80
      · exact Y.hX q hq
  rcases List.mem_cons.mp hp with rfl | hp
  · exact Nat.lt_trans hqL (show @LT.lt Nat _ L lf by omega)
  · exact Nat.lt_trans hqL (Nat.lt_trans (show @LT.lt Nat _ L lm by omega) (Y.htl p hp))
theorem Lay.grow (Y : Lay L lf ll lm (ext ++ news) tl) (h : ∀ p ∈ tl2, lm < p.1) : Lay L lf ll lm (ext ++ news) (tl ++ tl2) :=
  { Y with htl := fun p hp => (List.mem_append.mp hp).elim (Y.htl p) (h p) }
end
structure ImpJ (inner : Ty) (res : Option (List (Str × Str))) (vx : Value) (L lf ll lm : Addr) (ext news : List (Addr × Obj)) (k : Nat) (m₁ : Str → Option Value) (news₁ : List (Addr × Obj)) (found : List (Str × Str)) (ts met : List Ty) (many : Nat) (tk : Tok) (fvs lvs mvs : List Value) (nf nl nm : Nat) (oH : Obj) (s0 s1 : Option Addr) (tl : List (Addr × Obj)) : Prop where
  hrun : RunN inner k found ts met many res
  e1 : m₁ (Str.ofString "found") = some (.ref lf)
  e2 : m₁ (Str.ofString "left") = some (.ref ll)
  e3 : m₁ (Str.ofString "met") = some (.ref lm)
  e4 : m₁ (Str.ofString "many") = some (.int (many : Int) tk)
  e5 : m₁ (Str.ofString "world") = some vx
  hn : news₁ = (lf, listOf fvs.toArray nf) :: (ll, listOf lvs.toArray nl) :: (lm, listOf mvs.toArray nm) :: (L + 1, oH) :: (101, tabOf 72 4 s1) :: (80, tabOf 47 4 s0) :: (ext ++ (news ++ tl))
  hoH : ∃ v₀, oH.data = .cell v₀
  hF : PairAll (news ++ tl) fvs found
  hL : TyAll (news ++ tl) lvs ts
  hM : TyAll (news ++ tl) mvs met
  t0 : TabOk q80 (ext ++ (news ++ tl)) s0
  t1 : TabOk q101 (ext ++ (news ++ tl)) s1
  lay : Lay L lf ll lm (ext ++ news) tl
  hlok : ∀ t ∈ ts, t.ok
inductive ImpI (inner : Ty) (res : Option (List (Str × Str))) (vx : Value) (L lf ll lm : Addr) (ext news : List (Addr × Obj)) (k : Nat) (m₁ : Str → Option Value) (news₁ : List (Addr × Obj)) : Prop
  | mk (found : List (Str × Str)) (ts met : List Ty) (many : Nat) (tk : Tok) (fvs lvs mvs : List Value) (nf nl nm : Nat) (oH : Obj) (s0 s1 : Option Addr) (tl : List (Addr × Obj)) (h : ImpJ inner res vx L lf ll lm ext news k m₁ news₁ found ts met many tk fvs lvs mvs nf nl nm oH s0 s1 tl)
/-- the addresses of implied, apart -/
structure Six (L lf ll lm : Addr) : Prop where
  ab : @Ne Nat 80 101
  ba : @Ne Nat 101 80
  ac : @Ne Nat 80 (L + 1)
  ca : @Ne Nat (L + 1) 80
  ad : @Ne Nat 80 lf
  da : @Ne Nat lf 80
  ae : @Ne Nat 80 ll
  ea : @Ne Nat ll 80
  af : @Ne Nat 80 lm
  fa : @Ne Nat lm 80
  bc : @Ne Nat 101 (L + 1)
  cb : @Ne Nat (L + 1) 101
  bd : @Ne Nat 101 lf
  db : @Ne Nat lf 101
  be : @Ne Nat 101 ll
  eb : @Ne Nat ll 101
  bf : @Ne Nat 101 lm
  fb : @Ne Nat lm 101
  cd : @Ne Nat (L + 1) lf
  dc : @Ne Nat lf (L + 1)
  ce : @Ne Nat (L + 1) ll
  ec : @Ne Nat ll (L + 1)
  cf : @Ne Nat (L + 1) lm
  fc : @Ne Nat lm (L + 1)
  de : @Ne Nat lf ll
  ed : @Ne Nat ll lf
  df : @Ne Nat lf lm
  fd : @Ne Nat lm lf
  ef : @Ne Nat ll lm
  fe : @Ne Nat lm ll
  zlc : @LE.le Nat _ L (L + 1)
  zld : @LE.le Nat _ L lf
  zle : @LE.le Nat _ L ll
  zlf : @LE.le Nat _ L lm
  zmc : @LE.le Nat _ (L + 1) lm
  zmd : @LE.le Nat _ lf lm
  zme : @LE.le Nat _ ll lm
  zmf : @LE.le Nat _ lm lm
theorem six_of {L lf ll lm : Addr} (b1 : @LT.lt Nat _ (L + 1) lf) (b2 : @LT.lt Nat _ lf ll) (b3 : @LT.lt Nat _ ll lm) (b4 : @LT.lt Nat _ 101 L) : Six L lf ll lm :=
  ⟨Nat.ne_of_lt (show @LT.lt Nat _ 80 101 by decide), Nat.ne_of_gt (show @LT.lt Nat _ 80 101 by decide), Nat.ne_of_lt (Nat.lt_trans (show @LT.lt Nat _ 80 101 by decide) (Nat.lt_succ_of_lt b4)), Nat.ne_of_gt (Nat.lt_trans (show @LT.lt Nat _ 80 101 by decide) (Nat.lt_succ_of_lt b4)), Nat.ne_of_lt (Nat.lt_trans (show @LT.lt Nat _ 80 101 by decide) (Nat.lt_trans (Nat.lt_succ_of_lt b4) (b1))), Nat.ne_of_gt (Nat.lt_trans (show @LT.lt Nat _ 80 101 by decide) (Nat.lt_trans (Nat.lt_succ_of_lt b4) (b1))), Nat.ne_of_lt (Nat.lt_trans (show @LT.lt Nat _ 80 101 by decide) (Nat.lt_trans (Nat.lt_trans (Nat.lt_succ_of_lt b4) (b1)) (b2))), Nat.ne_of_gt (Nat.lt_trans (show @LT.lt Nat _ 80 101 by decide) (Nat.lt_trans (Nat.lt_trans (Nat.lt_succ_of_lt b4) (b1)) (b2))), Nat.ne_of_lt (Nat.lt_trans (show @LT.lt Nat _ 80 101 by decide) (Nat.lt_trans (Nat.lt_trans (Nat.lt_trans (Nat.lt_succ_of_lt b4) (b1)) (b2)) (b3))), Nat.ne_of_gt (Nat.lt_trans (show @LT.lt Nat _ 80 101 by decide) (Nat.lt_trans (Nat.lt_trans (Nat.lt_trans (Nat.lt_succ_of_lt b4) (b1)) (b2)) (b3))), Nat.ne_of_lt (Nat.lt_succ_of_lt b4), Nat.ne_of_gt (Nat.lt_succ_of_lt b4), Nat.ne_of_lt (Nat.lt_trans (Nat.lt_succ_of_lt b4) (b1)), Nat.ne_of_gt (Nat.lt_trans (Nat.lt_succ_of_lt b4) (b1)), Nat.ne_of_lt (Nat.lt_trans (Nat.lt_trans (Nat.lt_succ_of_lt b4) (b1)) (b2)), Nat.ne_of_gt (Nat.lt_trans (Nat.lt_trans (Nat.lt_succ_of_lt b4) (b1)) (b2)), Nat.ne_of_lt (Nat.lt_trans (Nat.lt_trans (Nat.lt_trans (Nat.lt_succ_of_lt b4) (b1)) (b2)) (b3)), Nat.ne_of_gt (Nat.lt_trans (Nat.lt_trans (Nat.lt_trans (Nat.lt_succ_of_lt b4) (b1)) (b2)) (b3)), Nat.ne_of_lt (b1), Nat.ne_of_gt (b1), Nat.ne_of_lt (Nat.lt_trans (b1) (b2)), Nat.ne_of_gt (Nat.lt_trans (b1) (b2)), Nat.ne_of_lt (Nat.lt_trans (Nat.lt_trans (b1) (b2)) (b3)), Nat.ne_of_gt (Nat.lt_trans (Nat.lt_trans (b1) (b2)) (b3)), Nat.ne_of_lt (b2), Nat.ne_of_gt (b2), Nat.ne_of_lt (Nat.lt_trans (b2) (b3)), Nat.ne_of_gt (Nat.lt_trans (b2) (b3)), Nat.ne_of_lt (b3), Nat.ne_of_gt (b3), (Nat.le_succ _), (Nat.le_of_lt (Nat.lt_trans (Nat.lt_succ_self _) (b1))), (Nat.le_of_lt (Nat.lt_trans (Nat.lt_succ_self _) (Nat.lt_trans (b1) (b2)))), (Nat.le_of_lt (Nat.lt_trans (Nat.lt_succ_self _) (Nat.lt_trans (Nat.lt_trans (b1) (b2)) (b3)))), (Nat.le_of_lt (Nat.lt_trans (Nat.lt_trans (b1) (b2)) (b3))), (Nat.le_of_lt (Nat.lt_trans (b2) (b3))), (Nat.le_of_lt (b3)), (Nat.le_refl _)⟩
/-- what a ref adds to found -/
noncomputable def refsOf : Ty → List (Str × Str)
  | .rf r t => (t.regs ++ t.params).map fun x => (x, r)
  | _ => []
theorem refs_none {t : Ty} (h : ¬ ∃ r u, t = .rf r u) : refsOf t = [] := by cases t <;> first | rfl | exact absurd ⟨_, _, rfl⟩ h
/-- a turn of the run, seen by its last part -/
inductive RunV (inner : Ty) (k : Nat) (found : List (Str × Str)) (ts met : List Ty) (many : Nat) (t : Ty) (res : Option (List (Str × Str))) : Prop
  | pl : (t.kind == ("adt" : Str)) = false → RunN inner k (found ++ refsOf t) (ts ++ t.parts.reverse) met (many + 1) res → RunV inner k found ts met many t res
  | old (r : Str) (u : Ty) : t = .adtR r u → Ty.adtR r u ∈ met → RunN inner k (found ++ refsOf t) (ts ++ t.parts.reverse) met (many + 1) res → RunV inner k found ts met many t res
  | new (r : Str) (u : Ty) : t = .adtR r u → Ty.adtR r u ∉ met → ¬ 200 < (Ty.adtR r u).depth → RunN inner k (found ++ refsOf t) (ts ++ t.parts.reverse ++ [fieldOf inner r u]) (met ++ [.adtR r u]) (many + 1) res → RunV inner k found ts met many t res
  | great (r : Str) (u : Ty) : t = .adtR r u → Ty.adtR r u ∉ met → 200 < (Ty.adtR r u).depth → res = none → RunV inner k found ts met many t res
theorem plain_refs {t : Ty} (h : t.plain) : refsOf t = [] := by cases t <;> first | rfl | exact h.elim
theorem plain_kind {t : Ty} (h : t.plain) : (t.kind == ("adt" : Str)) = false := by cases t <;> first | rfl | decide | exact h.elim
theorem RunN.view {inner : Ty} {k many : Nat} {found : List (Str × Str)} {ts met : List Ty} {res : Option (List (Str × Str))} (h : RunN inner k found ts met many res) :
    (k = 0 ∧ ts = [] ∧ res = some found) ∨ ∃ k' ts' t, k = k' + 1 ∧ ts = ts' ++ [t] ∧ Bnd found ts' met t many ∧ RunV inner k' found ts' met many t res := by
  cases h
  case done => exact .inl ⟨rfl, rfl, rfl⟩
  case ref hB hr => exact .inr ⟨_, _, _, rfl, rfl, hB, .pl rfl hr⟩
  case plain t hp hB hr => exact .inr ⟨_, _, _, rfl, rfl, hB, .pl (plain_kind hp) (by rw [plain_refs hp, List.append_nil]; exact hr)⟩
  case old hm hB hr => exact .inr ⟨_, _, _, rfl, rfl, hB, .old _ _ rfl hm ((List.append_nil found).symm ▸ hr)⟩
  case new hg hm hB hr => exact .inr ⟨_, _, _, rfl, rfl, hB, .new _ _ rfl hm hg ((List.append_nil found).symm ▸ hr)⟩
  case great hg hm hB => exact .inr ⟨_, _, _, rfl, rfl, hB, .great _ _ rfl hm hg rfl⟩
/-- behind «if here[0] == 'ref'» -/
inductive RefJ (h₀ : Heap) (L : Addr) (m : Str → Option Value) (s : Shared) (lf ll lm : Addr) (ext news tl : List (Addr × Obj)) (ws mvs : List Value) (nl nm : Nat) (oC : Obj) (s1 : Option Addr) (fd : List (Str × Str)) : Shared → Prop
  | mk (fvs : List Value) (nf : Nat) (s0 : Option Addr) (tl' : List (Addr × Obj)) (h : Heap) (tk : Nat) : Fr h₀ L h m →
      News h₀ L h ((ll, listOf ws.toArray (nl + 1)) :: (lf, listOf fvs.toArray nf) :: (lm, listOf mvs.toArray nm) :: (L + 1, oC) :: (101, tabOf 72 4 s1) :: (80, tabOf 47 4 s0) :: (ext ++ (news ++ tl'))) → PairAll (news ++ tl') fvs fd →
      TabOk q80 (ext ++ (news ++ tl')) s0 → Lay L lf ll lm (ext ++ news) tl' → (∀ p ∈ tl, p ∈ tl') →
      RefJ h₀ L m s lf ll lm ext news tl ws mvs nl nm oC s1 fd { heap := h, gens := s.gens, drawn := s.drawn, toks := tk, os := s.os }
theorem upd5 {m : Str → Option Value} {a b c d e : Str} {x y z u v : Value} (ha : m a = some x) (hb : m b = some y) (hc : m c = some z) (hd : m d = some u) (he : m e = some v) :
    m = fun k => if k = a then some x else if k = b then some y else if k = c then some z else if k = d then some u else if k = e then some v else m k := by
  funext k
  split
  · rename_i h; rw [h]; exact ha
  · split
    · rename_i h; rw [h]; exact hb
    · split
      · rename_i h; rw [h]; exact hc
      · split
        · rename_i h; rw [h]; exact hd
        · split
          · rename_i h; rw [h]; exact he
          · rfl
set_option hygiene false in
local macro_rules | `(tactic| walk_at "execs cons") => `(tactic| (k_here; (try k_gentoks); (try k_fold); (with_reducible refine execsN ?_)))
local macro_rules | `(tactic| walk_at "m:mem") => `(tactic| first | assumption | exact List.Mem.head _ | (with_reducible refine memTail ?_; walk_at "m:mem") | (with_reducible refine memR ?_; walk_at "m:mem") | (with_reducible refine memL ?_; walk_at "m:mem"))
local macro_rules | `(tactic| k_mem) => `(tactic| walk_at "m:mem")
local macro_rules | `(tactic| walk_at "exec While") => `(tactic| (k_here; (with_reducible show wpAny _ _ (exec (Stmt.While _ _ _ _) _) _ _ _); refine Halt.go ?_))
local macro_rules | `(tactic| walk_at "exec While Compare cons nil") => `(tactic| (k_here; (with_reducible show wpAny _ _ (exec (Stmt.While _ _ _ _) _) _ _ _); refine Halt.go ?_))
local macro_rules | `(tactic| walk_at "call builtin:list.pop") => `(tactic| (k_here; refine Halt.go ?_))
local macro_rules | `(tactic| walk_at "call builtin:list.append") => `(tactic| (k_here; refine Halt.go ?_))
local macro_rules | `(tactic| walk_at "call builtin:list.extend") => `(tactic| (k_here; refine Halt.go ?_))
local macro_rules | `(tactic| walk_at "subscriptTail Name Slice ref ref") => `(tactic| (k_here; refine Halt.go ?_))
local macro_rules | `(tactic| walk_at "compareOp NotEq ref ref") => `(tactic| (k_here; refine Halt.go ?_))
local macro_rules | `(tactic| walk_at "compareOp NotIn ref ref") => `(tactic| (k_here; refine Halt.go ?_))
local macro_rules | `(tactic| walk_at "binaryOp Add ref ref") => `(tactic| (k_here; refine Halt.go ?_))
local macro_rules | `(tactic| walk_at "eval ListComp") => `(tactic| (k_here; refine Halt.go ?_))
local macro_rules | `(tactic| walk_at "exec Raise some none") => `(tactic| (k_here; refine Halt.go ?_))
local macro_rules | `(tactic| walk_at "call ref") => `(tactic| (k_here; (with_reducible show wpAny _ _ (call (Value.ref _) _) _ _ _); refine Halt.go ?_))
local macro_rules | `(tactic| walk_at "subscriptTail") => `(tactic| (k_here; (with_reducible show wpAny _ _ (subscriptTail _ _ (Value.ref _) (Value.str _ _)) _ _ _); refine Halt.go ?_))
local macro_rules | `(tactic| walk_at "subscriptTail") => `(tactic| (k_here; (with_reducible show wpAny _ _ (subscriptTail _ _ (Value.ref _) (Value.int 0 _)) _ _ _); k_dflt (refine item0 (by k_asm) (by k_mem) ?_)))
local macro_rules | `(tactic| walk_at "m:el") => `(tactic| with_reducible first | exact memHead | (refine memTail ?_; walk_at "m:el") | (refine memR ?_; walk_at "m:el") | (refine memL ?_; walk_at "m:el"))
local macro_rules | `(tactic| walk_at "m:in") => `(tactic| with_reducible first | assumption | exact subRefl | exact subNil | (refine subCons ?_ ?_; (walk_at "m:el"); (walk_at "m:in")) | (refine subApp ?_ ?_; (walk_at "m:in"); (walk_at "m:in")) | (refine subTail ?_; walk_at "m:in") | (refine subR ?_; walk_at "m:in") | (refine subL ?_; walk_at "m:in"))
local macro_rules | `(tactic| walk_at "m:ap") => `(tactic| first | assumption | exact Lay.off ‹_› ‹_› ‹_› | exact Lay.off101 ‹_› | exact Lay.off80 ‹_› | (refine List.forall_mem_cons.mpr ⟨?_, ?_⟩; (show @Ne Nat _ _; first | assumption | omega); walk_at "m:ap"))
local macro_rules | `(tactic| k_all) => `(tactic| first | assumption | walk_at "m:ap")
theorem TabOk.drop {qual : Str} {p : Addr × Obj} {l : List (Addr × Obj)} {st : Option Addr} (h : TabOk qual (p :: l) st) (hp : ∀ vs t, p.2.data = .fields vs → vs[1]? ≠ some (.str qual t)) : TabOk qual l st := by
  cases st with
  | none => trivial
  | some c =>
    obtain ⟨oc, vs, t, hm, hd, hv⟩ := h
    rcases List.mem_cons.mp hm with e | hm
    · cases e; exact absurd hv (hp vs t hd)
    · exact ⟨oc, vs, t, hm, hd, hv⟩
theorem tabOf_no {qual : Str} {l c : Nat} {st : Option Addr} : ∀ vs t, (tabOf l c st).data = .fields vs → vs[1]? ≠ some (.str qual t) := by
  intro vs t h
  cases st <;> (cases h; simp [rawInt])
theorem TabOk.base {qual : Str} {ll lf lm Lc : Addr} {lvs fvs mvs : Array Value} {nl nf nm : Nat} {oC T : Obj} {vC : Option Value} {a : Addr} {X : List (Addr × Obj)} {st : Option Addr} (hC : oC.data = .cell vC) (hT : ∀ vs t, T.data = .fields vs → vs[1]? ≠ some (.str qual t))
    (h : TabOk qual ((ll, listOf lvs nl) :: (lf, listOf fvs nf) :: (lm, listOf mvs nm) :: (Lc, oC) :: (a, T) :: X) st) : TabOk qual X st :=
  ((((h.drop fun vs t e => by cases e).drop fun vs t e => by cases e).drop fun vs t e => by cases e).drop fun vs t e => by rw [hC] at e; cases e).drop hT
theorem Ty.params_len (t : Ty) : t.params.length ≤ 1 := by
  induction t <;> simp_all [Ty.params]
theorem TyAll.rev {news : List (Addr × Obj)} {vs : List Value} {ts : List Ty} (h : TyAll news vs ts) : TyAll news vs.reverse ts.reverse := by
  induction h with
  | nil => exact .nil
  | cons a _ ih => simp only [List.reverse_cons]; exact ih.append (.cons a .nil)
section
variable {prog : Program} {w : World} {K : Frag} {p : Program} {loose : List Str} {mean : ExcName → Option Value} {mg mb : Str → Option Value} {f : Addr} {Hyp : Heap → Prop}
theorem tellsF_use {d : FieldD} {dp un : Nat} {gd : Option (List Code)} {cn : Str} {cs : Scope} {a : Addr} {ccd : Value} {cl : List (Str × Addr)} {outer : List Env} {A₀ : Around} {base h₀ : Heap} {L : Addr} {m : Str → Option Value} {all : List (Addr × Obj)} {s : Shared} {vs : List Value}
    {Q E : Value → Shared → Prop} (ext news : List (Addr × Obj)) (B : Below A₀ base outer h₀) (F : Fr h₀ L s.heap m) (X : K.In h₀) (N : News h₀ L s.heap all) (T : Top p loose mean mg mb h₀) (hk : cs.kind = .function) (C : TellsF Hyp prog w K p loose mean mg mb f d) (H : Hyp base)
    (hs : ∀ p ∈ (101, tabOf 72 4 d.st) :: (ext ++ news), p ∈ all) (off : ∀ p ∈ ext ++ news, p.1 ≠ 101) (R : FieldIn w (ext ++ news) news vs d)
    (hd : dp + (d.inner.depth + 20) < recursionLimit) (hu : un + 8 * (d.inner.depth + 20) < cLine)
    (ret : ∀ c l n pr k n' v tl h' tk', Fr h₀ L h' m → News h₀ L h' ((l, listOf #[.ref pr] n) :: (101, tabOf 72 4 (some c)) :: (ext ++ (news ++ tl))) → (∀ q ∈ (101, tabOf 72 4 d.st) :: (ext ++ news), ∀ p ∈ tl, q.1 < p.1) →
      TabOk (Str.ofString "fields_of.<locals>.put_in") (ext ++ (news ++ tl)) (some c) → (pr, tupO [.str (Str.ofString "n") k, v] n') ∈ news ++ tl → TyIn (news ++ tl) v (fieldOf d.inner d.r d.u) → Q (.ref l) { s with heap := h', toks := tk' }) :
    wpAny (model prog w) (ktrTop dp un gd cn cs L a ccd cl outer) (call (.ref f) vs) Q E s :=
  C _ _ _ _ _ _ _ _ _ _ _ _ _ _ ext news _ _ _ _ B H F X (nsub N hs) off T hk R hd hu ret
end
theorem WorldIn.mono {w : World} {l l' : List (Addr × Obj)} {v : Value} {t : Ty} (h : WorldIn w l v t) (hs : ∀ p ∈ l, p ∈ l') : WorldIn w l' v t := by
  cases h with
  | mk a1 a2 a3 a4 a5 a6 a7 a8 a9 a10 a11 a12 a13 a14 a15 => exact .mk (n9 := 0) (hs _ a1) a2 a3 (hs _ a4) (hs _ a5) a6 (hs _ a7) (hs _ a8) (hs _ a9) (hs _ a10) (hs _ a11) (hs _ a12) (hs _ a13) (hs _ a14) (a15.mono hs)
theorem neNil (ts : List Ty) (t : Ty) : PyData.eqv (.list ((ts ++ [t]).map Ty.data)) (.list []) = false := by
  cases ts <;> rfl
local macro_rules | `(tactic| walk_at "execs cons") => `(tactic| (k_here; rename StopW => hStopW; refine Halt.go ?_))
set_option genInjectivity false in
set_option genSizeOf false in
structure Z114 where
  inner_ : Ty
  t0_ : Ty
  s0_ : Option Addr
  s1_ : Option Addr
  vt_ : Value
  lf_ : Addr
  ll_ : Addr
  lm_ : Addr
  hy9_ : Heap
  tkb_ : Nat
  m1_ : Str → Option Value
  h1_ : Heap
  tk1_ : Nat
  found_ : List (Str × Str)
  met_ : List Ty
  tk_ : Tok
  fvs_ : List Value
  mvs_ : List Value
  nf_ : Nat
  nl_ : Nat
  nm_ : Nat
  oH_ : Obj
  s0'_ : Option Addr
  s1'_ : Option Addr
  tl_ : List (Addr × Obj)
  kN_ : Nat
  ts_ : List Ty
  ws_ : List Value
set_option maxHeartbeats 8000000 in
noncomputable def cut114 : { P : World → Program → List Str → (ExcName → Option Value) → (Str → Option Value) → (Str → Option Value) → Nat → Nat → Option (List Code) → Str → Scope → Addr → Value → List (Str × Addr) → List Env → Around → Heap → Heap → Addr → (Str → Option Value) → List (Addr × Obj) → List (Addr × Obj) → Shared → (Value → Shared → Prop) → (Value → Shared → Prop) → Heap → Addr → Heap → Ty → Ty → Option Addr → Option Addr → Value → Addr → Addr → Addr → Heap → Nat → (Str → Option Value) → Heap → Nat → List (Str × Str) → List Ty → Tok → List Value → List Value → Nat → Nat → Nat → Obj → Option Addr → Option Addr → List (Addr × Obj) → Nat → List Ty → List Value → Prop // (∀ w p loose mean mg mb dp un gd cn cs a ccd cl outer A₀ base h₀ L m ext news s Q E g' L' h' inner t0 s0 s1 vt lf ll lm hy9 tkb m₁ h₁ tk₁ found met tk fvs mvs nf nl nm oH s0' s1' tl kN ts ws, P w p loose mean mg mb dp un gd cn cs a ccd cl outer A₀ base h₀ L m ext news s Q E g' L' h' inner t0 s0 s1 vt lf ll lm hy9 tkb m₁ h₁ tk₁ found met tk fvs mvs nf nl nm oH s0' s1' tl kN ts ws) → (∀ (w : World) (p : Program) (loose : List Str) (mean : ExcName → Option Value) (mg mb : Str → Option Value) (inner t0 : Ty) (res : Option (List (Str × Str))), TellsI PySem.Challenge.rw_xw0159_01.row.prog w (hd.heap_1 w.params) p loose mean mg mb inner t0 res) } := by
  refine' ⟨_, fun kP => ?use⟩
  case use =>
    intro w p loose mean mg mb inner t0 res
    unfold TellsI
    k_fill
    intro dp un gd cn cs a ccd cl outer A₀ base h₀ L m ext news s0 s1 s vt vx Q E B H0 H1 F X N hoff1 hoff0 T hk hR hW hT0 hT1 hokAll hokIn hRun hin hdp hun hret hbad
    have hc := cLine_is
    obtain ⟨k0, hRun⟩ := hRun
    refine wpAny_call ?_
    k_dflt (refine' code_defC (binds := [(Str.ofString "told", vt), (Str.ofString "world", vx)]) ?k1 ?k2 ?k3 ?k4 ?k5 ?kA ?kF ?kK ?k6 ?k7 ?k8 ?k9 ?kB ?kD ?_ ?c2 ?c3 ?c4; (case kA => exact rfl); (case kF => exact rfl); (case kK => assumption); (case k1 => k_asm); (case k2 => k_asm); (case k3 => k_asm); (case k4 => k_asm); (case k5 => k_asm); (case k6 => k_is); (case k7 => k_is); (case k8 => ktr_room); (case k9 => exact BindsTo.of_eq rfl); (case kB => exact rfl); (case kD => decide +kernel); (case c2 => exact rfl); (case c3 => exact rfl); (case c4 => exact rfl); k_whole; intro g' L' h' tk' cells' FG' F' N' Y' B' X' T' l1; (try k_lt l1); k_cells Y'; (try simp only [List.cons_append, List.nil_append] at N'); (try dsimp only); (try k_lift B'); (try k_fold))
    (try (((show let Mo0 := model _ _; let en0 : Env := _; let Ar0 := Around.deeper _ en0; wpAny Mo0 Ar0 (execs _ en0) _ _ _); intro Mo0 en0 Ar0; skip)))
    k_steps
    refine Halt.mk ?_
    rename_i oH hoH lf hy1 lay1 ll hy2 lay2 lm hy3 lay3 Dt hy4 lay4 hy5 hy6 hy7 hy8 hy9 FW NW
    have layW : Lay L' lf ll lm (ext ++ news) [] := ⟨l1.1, l1.2.1, ktn_ltOf l1.2.2, lay1.1, lay2.1, lay3.1, (fun _ h => nomatch h), hoff1, hoff0⟩
    refine While_invR (h₀ := g') (L := L') (ImpI inner res vx L' lf ll lm ext news) (n₀ := k0) FW (nsub (l' := (lf, listOf [].toArray 0) :: (ll, listOf [vt].toArray 0) :: (lm, listOf [].toArray 0) :: (L' + 1, oH) :: (101, tabOf 72 4 s1) :: (80, tabOf 47 4 s0) :: (ext ++ (news ++ []))) NW (by walk_at "m:in"))
      ⟨[], [t0], [], 0, _, [], [vt], [], 0, 0, 0, oH, s0, s1, [], ⟨hRun, rfl, rfl, rfl, rfl, rfl, rfl, ⟨_, hoH⟩, .nil, .cons (hR.mono (by walk_at "m:in")) .nil, .nil, hT0.mono (by walk_at "m:in"), hT1.mono (by walk_at "m:in"), layW, by simp [hokAll]⟩⟩ ?_
    intro k m₁ news₁ h₁ tk₁ F2 N2 hJ9
    (try k_fold)
    obtain ⟨found, ts, met, many, tk, fvs, lvs, mvs, nf, nl, nm, oH, s0', s1', tl, ⟨hrun, e1, e2, e3, e4, e5, hn, hoH', hF, hL, hM, hT0', hT1', lay, hlok⟩⟩ := hJ9
    rw [upd5 e1 e2 e3 e4 e5] at F2
    rw [hn] at N2
    have hroom : ∀ d : Nat, un + 3 + min d 1 < cLine := fun d => by have := Nat.min_le_right d 1; omega
    clear hn NW FW layW lay1 lay2 lay3 lay4 hoH e1 e2 e3 e4 e5
    have b1 := lay.h1
    have b2 := lay.h2
    have b3 := lay.h3
    have b4 := lay.h101
    have b5 := lay.h80
    obtain ⟨vH, hoH'⟩ := hoH'
    rcases hrun.view with ⟨rfl, rfl, rfl⟩ | ⟨kN, ts, t, rfl, rfl, hB, hV⟩
    · cases six_of b1 b2 b3 b4
      cases hL
      k_steps
      refine Halt.mk ?_
      rename News _ _ _ _ => N3
      refine SeqAt.compareNe_reads (da := .list []) (db := .list []) (readsList (N3 _ (.tail _ (.tail _ (.head _)))).1 .nil) (readsList (N3 _ (.head _)).1 .nil) rfl rfl (hroom _) ?_
      simp only [PyData.eqv, PyData.eqvAll, Bool.not_true]
      k_steps
      exact hret found lf nf fvs s0' s1' tl _ _ rfl (by k_asm) (nsub (by k_asm) (by walk_at "m:in")) hF hT0' hT1' lay.ord
    · obtain ⟨ws, v, rfl, hL1, hv⟩ := hL.splitLast
      obtain ⟨a1, tk1, rest1, n1, rfl, hm1⟩ := hv.head
      have hmany : ¬ ((many : Int) + 1 > 4000) := by have := hB.hmany; omega
      clear hRun hc
      rename_i oHx qkF ekF tkb
      clear hrun
      revert hmany; revert hv; revert hL; revert N2; revert hm1; revert hL1; revert hV; revert hB; revert hlok; revert hoH'; revert b5; revert b4; revert b3; revert b2; revert b1; revert hroom; revert lay; revert hT1'; revert hT0'; revert hM; revert hF; revert F2; revert l1; revert T'; revert X'; revert B'; revert FG'; revert hbad; revert hret; revert hun; revert hdp; revert hin; revert hokIn; revert hokAll; revert hT1; revert hT0; revert hW; revert hR; revert hk; revert T; revert hoff0; revert hoff1; revert X; revert F; revert H1; revert H0; revert B; revert n1; revert rest1; revert tk1; revert a1; revert vH; revert res; revert t; revert many; revert vx
      dsimp +zetaDelta only
      clear qkF ek ekF Ar0 en0 Mo0 oHx
      exact @kP w p loose mean mg mb dp un gd cn cs a ccd cl outer A₀ base h₀ L m ext news s Q E g' L' h' inner t0 s0 s1 vt lf ll lm hy9 tkb m₁ h₁ tk₁ found met tk fvs mvs nf nl nm oH s0' s1' tl kN ts ws
@[irreducible] noncomputable def z114 : Pt × Z114 := pick (pt0, ⟨.bool, .bool, default, default, default, default, default, default, default, default, fun _ => none, default, default, [], [], default, [], [], default, default, default, default, default, default, [], default, [], []⟩) fun z => cut114.1 z.1.w z.1.p z.1.loose z.1.mean z.1.mg z.1.mb z.1.dp z.1.un z.1.gd z.1.cn z.1.cs z.1.a z.1.ccd z.1.cl z.1.outer z.1.A₀ z.1.base z.1.h₀ z.1.L z.1.m z.1.ext z.1.news z.1.s z.1.Q z.1.E z.1.g z.1.L' z.1.h' z.2.inner_ z.2.t0_ z.2.s0_ z.2.s1_ z.2.vt_ z.2.lf_ z.2.ll_ z.2.lm_ z.2.hy9_ z.2.tkb_ z.2.m1_ z.2.h1_ z.2.tk1_ z.2.found_ z.2.met_ z.2.tk_ z.2.fvs_ z.2.mvs_ z.2.nf_ z.2.nl_ z.2.nm_ z.2.oH_ z.2.s0'_ z.2.s1'_ z.2.tl_ z.2.kN_ z.2.ts_ z.2.ws_
set_option maxHeartbeats 8000000 in
theorem implied_b : cut114.1 z114.1.w z114.1.p z114.1.loose z114.1.mean z114.1.mg z114.1.mb z114.1.dp z114.1.un z114.1.gd z114.1.cn z114.1.cs z114.1.a z114.1.ccd z114.1.cl z114.1.outer z114.1.A₀ z114.1.base z114.1.h₀ z114.1.L z114.1.m z114.1.ext z114.1.news z114.1.s z114.1.Q z114.1.E z114.1.g z114.1.L' z114.1.h' z114.2.inner_ z114.2.t0_ z114.2.s0_ z114.2.s1_ z114.2.vt_ z114.2.lf_ z114.2.ll_ z114.2.lm_ z114.2.hy9_ z114.2.tkb_ z114.2.m1_ z114.2.h1_ z114.2.tk1_ z114.2.found_ z114.2.met_ z114.2.tk_ z114.2.fvs_ z114.2.mvs_ z114.2.nf_ z114.2.nl_ z114.2.nm_ z114.2.oH_ z114.2.s0'_ z114.2.s1'_ z114.2.tl_ z114.2.kN_ z114.2.ts_ z114.2.ws_ := by
  intro vx many t res vH a1 tk1 rest1 n1 B H0 H1 F X hoff1 hoff0 T hk hR hW hT0 hT1 hokAll hokIn hin hdp hun hret hbad FG' B' X' T' l1 F2 hF hM hT0' hT1' lay hroom b1 b2 b3 b4 b5 hoH' hlok hB hV hL1 hm1 N2 hL hv hmany
  have hc := cLine_is
  cases six_of b1 b2 b3 b4
  replace hmany : ¬ ((many : Int) + 1 > 4000) := hmany
  k_steps
  refine Halt.mk ?_
  rename News _ _ _ _ => N3
  refine SeqAt.compareNe_reads (da := .list ((z114.2.ts_ ++ [t]).map Ty.data)) (db := .list []) (readsList (N3 _ (.tail _ (.tail _ (.head _)))).1 (hL.reads (nsub N3 (by walk_at "m:in")))) (readsList (N3 _ (.head _)).1 .nil) (Ty.list_canLay hlok) rfl (hroom _) ?_
  rw [neNil]
  simp only [Bool.not_false]
  k_steps
  refine Halt.mk ?_
  rename Fr _ _ _ _ => F4
  rename News _ _ _ _ => N4
  k_dflt (refine my_pop (vs := z114.2.ws_) ((z114.2.lf_, listOf z114.2.fvs_.toArray z114.2.nf_) :: (z114.2.lm_, listOf z114.2.mvs_.toArray z114.2.nm_) :: (z114.1.L' + 1, z114.2.oH_) :: (101, tabOf 72 4 z114.2.s1'_) :: (80, tabOf 47 4 z114.2.s0'_) :: (z114.1.ext ++ (z114.1.news ++ z114.2.tl_))) F4 N4 (by k_mem) (by walk_at "m:in") (by walk_at "m:ap") (by have h1 := hL.len; have h2 := hB.hts; have h3 := sizeLine_eq; simp only [List.length_append, List.length_cons, List.length_nil] at h1 ⊢; omega) ?_)
  intro h5 F5 N5
  have hS3 : StopW := trivial
  k_steps
  refine Halt.mk ?_
  (try k_gentoks)
  (try k_fold)
  refine execsN ?_
  k_steps
  refine Halt.mk ?_
  (rename StopW => hS; clear hS)
  rename_i oC hoC hC6 F6 N6
  replace N6 : News z114.1.g z114.1.L' hC6 ((z114.2.ll_, listOf z114.2.ws_.toArray (z114.2.nl_ + 1)) :: (z114.2.lf_, listOf z114.2.fvs_.toArray z114.2.nf_) :: (z114.2.lm_, listOf z114.2.mvs_.toArray z114.2.nm_) :: (z114.1.L' + 1, oC) :: (101, tabOf 72 4 z114.2.s1'_) :: (80, tabOf 47 4 z114.2.s0'_) :: (z114.1.ext ++ (z114.1.news ++ z114.2.tl_))) := nsub N6 (by walk_at "m:in")
  (try clear N5); (try clear F5); (try clear F2); (try clear N2); (try clear N3); (try clear N4); (try clear F4)
  refine withM1 F6 fun m6 hm6 F6x => ?_
  refine split_tail (RefJ z114.1.g z114.1.L' m6 z114.1.s z114.2.lf_ z114.2.ll_ z114.2.lm_ z114.1.ext z114.1.news z114.2.tl_ z114.2.ws_ z114.2.mvs_ z114.2.nl_ z114.2.nm_ oC z114.2.s1'_ (z114.2.found_ ++ refsOf t)) ?_ ?_
  · subst hm6
    (try k_fold)
    by_cases hrf : ∃ r u, t = .rf r u
    · obtain ⟨r, u, rfl⟩ := hrf
      cases hv
      rename_i v1 k1 k1' n1 hm1 hv1
      k_steps
      refine Halt.mk ?_
      k_dflt (refine LCg.ListComp_U (F₀ := by k_asm) (by with_unfolding_all rfl) (by decide) (by rfl) (by decide) (by rfl) ?_)
      k_steps
      refine Halt.mk ?_
      k_dflt (refine' tellsG_use (c := regsT) (d := (u, z114.2.s0'_)) ((z114.2.ll_, listOf z114.2.ws_.toArray (z114.2.nl_ + 1)) :: (z114.2.lf_, listOf z114.2.fvs_.toArray z114.2.nf_) :: (z114.2.lm_, listOf z114.2.mvs_.toArray z114.2.nm_) :: (z114.1.L' + 1, oC) :: (101, tabOf 72 4 z114.2.s1'_) :: (z114.1.ext ++ (z114.1.news ++ z114.2.tl_))) (z114.1.news ++ z114.2.tl_) ?k1 ?k2 ?k3 ?k4 ?k5 ?kK (regions_in_tells _ _ _ _ _ _ _) H0 ?hP ?hr ?hs ?ho ?kR ?kd ?ku ?_)
      (((case k1 => k_asm); (case k2 => k_asm); (case k3 => k_asm); (case k4 => k_asm); (case k5 => k_asm); (case kK => first | exact rfl | assumption)))
      case hP => (intro q hq; obtain rfl := List.mem_singleton.mp hq; walk_at "m:el")
      case hr => walk_at "m:in"
      case hs => walk_at "m:in"
      case ho => (intro q hq; obtain rfl := List.mem_singleton.mp hq; walk_at "m:ap")
      case kd => (have h1 := hB.hdepth; dsimp only [ktrTop, regsT, Around.deeper, Ty.depth] at hdp h1 ⊢; omega)
      case ku => (have h1 := hB.hdepth; dsimp only [ktrTop, regsT, Around.deeper, Ty.depth] at hun h1 ⊢; omega)
      case kR => exact ⟨.mk (hv1.mono (by walk_at "m:in")), hT0'.mono (by walk_at "m:in")⟩
      intro r7 l7 tl7 h7 tk7 hl7 F7 N7 ho7 hO7
      obtain ⟨c7, rfl, hT7, lr, nr, vr, rfl, hmr, hSr⟩ := hO7
      simp only [List.cons_append, List.nil_append, List.append_assoc] at N7 hT7 hmr
      dsimp only at hSr
      replace N7 : News z114.1.g z114.1.L' h7 ((z114.2.ll_, listOf z114.2.ws_.toArray (z114.2.nl_ + 1)) :: (z114.2.lf_, listOf z114.2.fvs_.toArray z114.2.nf_) :: (z114.2.lm_, listOf z114.2.mvs_.toArray z114.2.nm_) :: (z114.1.L' + 1, oC) :: (101, tabOf 72 4 z114.2.s1'_) :: (80, tabOf 47 4 (some c7)) :: (z114.1.ext ++ (z114.1.news ++ (z114.2.tl_ ++ tl7)))) := nsub N7 (by walk_at "m:in")
      replace hm1 := memOf (l' := z114.1.news ++ (z114.2.tl_ ++ tl7)) (by walk_at "m:in") hm1
      have hT8 : TabOk q80 (z114.1.ext ++ (z114.1.news ++ (z114.2.tl_ ++ tl7))) (some c7) := (TabOk.base hoC tabOf_no hT7).mono (by walk_at "m:in")
      have lay7 : Lay z114.1.L' z114.2.lf_ z114.2.ll_ z114.2.lm_ (z114.1.ext ++ z114.1.news) (z114.2.tl_ ++ tl7) := lay.grow fun p hp => ho7 (z114.2.lm_, listOf z114.2.mvs_.toArray z114.2.nm_) (memR (by walk_at "m:el")) p hp
      have hlt7 : ∀ q ∈ z114.1.ext ++ (z114.1.news ++ z114.2.tl_), ∀ p ∈ tl7, q.1 < p.1 := fun q hq p hp => ho7 q (memR (memOf (by walk_at "m:in") hq)) p hp
      clear hT7 ho7 hl7
      k_steps
      refine Halt.mk ?_
      k_dflt (refine' tellsX_use (c := paramsT) (d := u) (z114.1.news ++ (z114.2.tl_ ++ tl7)) ?k1 ?k2 ?k3 ?k4 ?k5 ?kK (params_in_tells _ _ _ _ _ _ _) ?hs ?kR ?kd ?ku ?_)
      (((case k1 => k_asm); (case k2 => k_asm); (case k3 => k_asm); (case k4 => k_asm); (case k5 => k_asm); (case kK => first | exact rfl | assumption)))
      case hs => walk_at "m:in"
      case kd => exact bud hdp (Nat.le_of_ble_eq_true rfl)
      case ku => exact bud hun (Nat.le_of_ble_eq_true rfl)
      case kR => exact ⟨.mk (hv1.mono (by walk_at "m:in")), hB.hok.2⟩
      intro r8 tl8 h8 tk8 F8 N8 ho8 hO8
      obtain ⟨lp, np, vp, rfl, hmp, hSp⟩ := hO8
      simp only [List.cons_append, List.append_assoc] at N8 hmp
      replace hm1 := memOf (l' := z114.1.news ++ (z114.2.tl_ ++ (tl7 ++ tl8))) (by walk_at "m:in") hm1
      replace hmr := memOf (l' := z114.1.news ++ (z114.2.tl_ ++ (tl7 ++ tl8))) (by walk_at "m:in") hmr
      have lay8 : Lay z114.1.L' z114.2.lf_ z114.2.ll_ z114.2.lm_ (z114.1.ext ++ z114.1.news) (z114.2.tl_ ++ (tl7 ++ tl8)) := by rw [← List.append_assoc]; exact lay7.grow fun p hp => ho8 (z114.2.lm_, listOf z114.2.mvs_.toArray z114.2.nm_) (by walk_at "m:el") p hp
      k_steps
      refine Halt.mk ?_
      k_dflt (refine my_add (by k_asm) (by k_asm) (memOf (by walk_at "m:in") hmr) (memOf (by walk_at "m:in") hmp) ?hz ?_)
      case hz => (have q1 := hSr.len; have q2 := hSp.len; have q3 := Ty.regs_len u; have q4 := Ty.params_len u; have q5 := hB.hdepth; have q6 := sizeLine_eq; dsimp only [Ty.depth] at q5; omega)
      intro d9 h9 F9 N9 l9
      k_dflt (refine LCg.CompSrc.ledger (its := (vr ++ vp).toArray) (k := 0) rfl F9 N9 (.head _) ?hz ?_)
      case hz => (have q1 := hSr.len; have q2 := hSp.len; have q3 := Ty.regs_len u; have q4 := Ty.params_len u; have q5 := hB.hdepth; have q6 := sizeLine_eq; dsimp only [Ty.depth] at q5; simp only [List.size_toArray, List.length_append]; omega)
      intro g9
      refine compRest_pairs (r := r) (hSr.app hSp) ?elt ?src ?fin
      case src => exact fun tlc => .inr ⟨_, .head _, rfl, _, rfl⟩
      case elt =>
        intro x1 tk1 tlc ys I oI C oC2 D m2 hcc tkc Ec hNs hx2 Fc Nc offc nec
        (try k_fold)
        k_steps
        (try dsimp only)
        repeat' (k_unfold; (try dsimp only))
        rename Fr _ _ _ _ => FT
        rename News _ _ _ _ => NT
        rename_i lT
        exact ⟨_, _, _, _, _, _, rfl, rfl, FT, NT, ktn_ltOf lT⟩
      case fin =>
        intro ys tlc hord hPA
        unfold LCg.FinE
        intro D4 h4 tk4 F4 N4 o4
        simp only [List.cons_append, List.append_assoc] at N4
        k_steps
        refine Halt.mk ?_
        have layC : Lay z114.1.L' z114.2.lf_ z114.2.ll_ z114.2.lm_ (z114.1.ext ++ z114.1.news) (z114.2.tl_ ++ (tl7 ++ (tl8 ++ tlc))) := by
          have := lay8.grow (tl2 := tlc) fun p hp => hord (z114.2.lm_, listOf z114.2.mvs_.toArray z114.2.nm_) (by walk_at "m:el") p hp
          simpa only [List.append_assoc] using this
        have hD4 : @LT.lt Nat _ z114.2.lm_ d9 := l9 (z114.2.lm_, listOf z114.2.mvs_.toArray z114.2.nm_) (by walk_at "m:el")
        k_dflt (refine my_extendL (vs := z114.2.fvs_) (ws := ys) (n2 := ys.length) ((z114.2.ll_, listOf z114.2.ws_.toArray (z114.2.nl_ + 1)) :: (z114.2.lm_, listOf z114.2.mvs_.toArray z114.2.nm_) :: (z114.1.L' + 1, oC) :: (101, tabOf 72 4 z114.2.s1'_) :: (80, tabOf 47 4 (some c7)) :: (z114.1.ext ++ (z114.1.news ++ (z114.2.tl_ ++ (tl7 ++ (tl8 ++ tlc)))))) (by k_asm) N4 (by walk_at "m:el") (N4 _ (.head _)).1 (by walk_at "m:in") (by walk_at "m:ap") ?hz ?_)
        case hz => (have q0 := hPA.len; have q1 := hF.len; have q2 := hB.hfound; rw [List.length_map, List.length_append] at q0; have q3 := Ty.regs_len u; have q4 := Ty.params_len u; have q5 := hB.hdepth; have q6 := sizeLine_eq; dsimp only [Ty.depth] at q5; omega)
        intro h10 n10 F10 N10
        k_steps
        (try dsimp only)
        repeat' (k_unfold; (try dsimp only))
        exact RefJ.mk (z114.2.fvs_ ++ ys) n10 (some c7) (z114.2.tl_ ++ (tl7 ++ (tl8 ++ tlc))) _ _ (by k_asm) (nsub N10 (by walk_at "m:in")) ((hF.mono (by walk_at "m:in")).app (hPA.mono (by walk_at "m:in"))) (hT8.mono (by walk_at "m:in")) layC (fun p hp => memL hp)
    · have hkr := kind_ref hrf
      have hre := refs_none hrf
      k_steps
      (try dsimp only)
      repeat' (k_unfold; (try dsimp only))
      exact RefJ.mk z114.2.fvs_ z114.2.nf_ z114.2.s0'_ z114.2.tl_ _ _ (by k_asm) (nsub N6 (by walk_at "m:in")) (by rw [hre, List.append_nil]; exact hF) hT0' lay (fun p hp => hp)
  · intro sJ hJ
    subst hm6
    (try k_fold)
    cases hJ
    rename_i fvs3 nf3 s03 tl3 h6 tk6 F6y N6y hF3 hT03 lay3 hsub3
    have hsn : ∀ p ∈ z114.1.news ++ z114.2.tl_, p ∈ z114.1.news ++ tl3 := subApp (subL subRefl) (subR hsub3)
    have hse : ∀ p ∈ z114.1.ext ++ (z114.1.news ++ z114.2.tl_), p ∈ z114.1.ext ++ (z114.1.news ++ tl3) := subApp (subL subRefl) (subR hsn)
    replace hv := hv.mono hsn
    replace hL1 := hL1.mono hsn
    replace hM := hM.mono hsn
    replace hT1' := hT1'.mono hse
    replace hm1 := hsn _ hm1
    have hLl := hL.len
    clear hF hT0' lay hsn hse hsub3 N6 F6 F6x hL
    k_steps
    refine Halt.mk ?_
    k_dflt (refine' tellsX_use (c := partsT) (d := t) (z114.1.news ++ tl3) ?k1 ?k2 ?k3 ?k4 ?k5 ?kK (parts_of_tells _ _ _ _ _ _ _) ?hs ?kR ?kd ?ku ?_)
    (((case k1 => k_asm); (case k2 => k_asm); (case k3 => k_asm); (case k4 => k_asm); (case k5 => k_asm); (case kK => first | exact rfl | assumption)))
    case hs => walk_at "m:in"
    case kd => exact bud hdp (Nat.le_of_ble_eq_true rfl)
    case ku => exact bud hun (Nat.le_of_ble_eq_true rfl)
    case kR => exact .mk (hv.mono (by walk_at "m:in"))
    intro r11 tl11 h11 tk11 F11 N11 ho11 hO11
    obtain ⟨a11, n11, vs11, rfl, hm11, hA11⟩ := hO11
    simp only [List.cons_append, List.append_assoc] at N11 hm11 hA11
    have hl11 := hA11.len
    have hl12 := parts_two (t := t)
    k_steps
    refine Halt.mk ?_
    k_dflt (refine slice_tuple_rev (xs := vs11) (n := n11) (by k_asm) (by k_asm) (memOf (by walk_at "m:in") hm11) (by omega) ?_)
    intro D12 h12 F12 N12 l12
    have layD : Lay z114.1.L' z114.2.lf_ z114.2.ll_ z114.2.lm_ (z114.1.ext ++ z114.1.news) (tl3 ++ tl11) := lay3.grow (tl2 := tl11) fun p hp => ho11 (z114.2.lm_, listOf z114.2.mvs_.toArray z114.2.nm_) (by walk_at "m:el") p hp
    k_steps
    refine Halt.mk ?_
    k_dflt (refine my_extend (vs := z114.2.ws_) (ws := vs11.reverse) (n2 := 0) ((z114.2.lf_, listOf fvs3.toArray nf3) :: (z114.2.lm_, listOf z114.2.mvs_.toArray z114.2.nm_) :: (z114.1.L' + 1, oC) :: (101, tabOf 72 4 z114.2.s1'_) :: (80, tabOf 47 4 s03) :: (z114.1.ext ++ (z114.1.news ++ (tl3 ++ tl11)))) (by k_asm) N12 (by walk_at "m:el") (N12 _ (.head _)).1 (by walk_at "m:in") (by walk_at "m:ap") ?hz ?_)
    case hz => (have h1 := hLl; have h2 := hB.hts; have h3 := sizeLine_eq; simp only [List.length_append, List.length_cons, List.length_nil, List.length_reverse] at h1 h2 ⊢; omega)
    intro h13 n13 F13 N13
    replace hm1 := memOf (l' := z114.1.news ++ (tl3 ++ tl11)) (by walk_at "m:in") hm1
    have hS5 : StopW := trivial
    k_steps
    refine Halt.mk ?_
    (rename StopW => hS; clear hS)
    have hok13 : ∀ x ∈ z114.2.ts_ ++ t.parts.reverse, x.ok := by have q := Ty.parts_ok hB.hok; have q2 := hlok; simp only [List.mem_append, List.mem_singleton, List.mem_reverse] at q2 ⊢; rintro u (hu | hu); exact q2 u (.inl hu); exact q u hu
    have hL13 : TyAll (z114.1.news ++ (tl3 ++ tl11)) (z114.2.ws_ ++ vs11.reverse) (z114.2.ts_ ++ t.parts.reverse) := (hL1.mono (by walk_at "m:in")).append (hA11.rev.mono (by walk_at "m:in"))
    replace N13 := nsub N13 (l' := (z114.2.lf_, listOf fvs3.toArray nf3) :: (z114.2.ll_, listOf (z114.2.ws_ ++ vs11.reverse).toArray n13) :: (z114.2.lm_, listOf z114.2.mvs_.toArray z114.2.nm_) :: (z114.1.L' + 1, oC) :: (101, tabOf 72 4 z114.2.s1'_) :: (80, tabOf 47 4 s03) :: (z114.1.ext ++ (z114.1.news ++ (tl3 ++ tl11)))) (by walk_at "m:in")
    (try k_fold)
    cases hV
    case pl hka hrun =>
      k_steps
      (try dsimp only)
      repeat' (k_unfold; (try dsimp only))
      refine StepR.next F13 N13 (n' := z114.2.kN_) (Nat.lt_succ_self _) ⟨_, _, _, _, _, _, _, _, nf3, n13, z114.2.nm_, oC, _, z114.2.s1'_, _, ⟨hrun, rfl, rfl, rfl, rfl, rfl, rfl, ⟨_, hoC⟩, (hF3.mono (by walk_at "m:in")), hL13, hM.mono (by walk_at "m:in"), hT03.mono (by walk_at "m:in"), hT1'.mono (by walk_at "m:in"), layD, hok13⟩⟩
    case old r u et hmet hrun =>
      have hv0 : TyIn (z114.1.news ++ tl3) (.ref a1) (.adtR r u) := by rw [← et]; exact hv
      have hokB : (Ty.adtR r u).ok := by rw [← et]; exact hB.hok
      clear hm1
      refine TyIn.adtRE hv0 fun b1' c1' v1 k1 k1' k1'' n1 n1' n1'' hm1 hm2 hm3 hv1 => ?_
      replace hm1 := memOf (l' := z114.1.news ++ (tl3 ++ tl11)) (by walk_at "m:in") hm1
      replace hm2 := memOf (l' := z114.1.news ++ (tl3 ++ tl11)) (by walk_at "m:in") hm2
      replace hm3 := memOf (l' := z114.1.news ++ (tl3 ++ tl11)) (by walk_at "m:in") hm3
      k_steps
      refine Halt.mk ?_
      k_dflt (refine my_notIn (t := .adtR r u) (ts := z114.2.met_) (by k_asm) (by walk_at "m:el") (hM.mono (by walk_at "m:in")) (hv0.mono (by walk_at "m:in")) hB.hoks hokB ?hu ?_)
      case hu => (have h1 := hB.hdepth; rw [et] at h1; dsimp only [ktrTop, Around.deeper] at hun ⊢; omega)
      simp only [hmet, not_true_eq_false, decide_false]
      k_steps
      (try dsimp only)
      repeat' (k_unfold; (try dsimp only))
      refine StepR.next F13 N13 (n' := z114.2.kN_) (Nat.lt_succ_self _) ⟨_, _, _, _, _, _, _, _, nf3, n13, z114.2.nm_, oC, _, z114.2.s1'_, _, ⟨hrun, rfl, rfl, rfl, rfl, rfl, rfl, ⟨_, hoC⟩, (hF3.mono (by walk_at "m:in")), hL13, hM.mono (by walk_at "m:in"), hT03.mono (by walk_at "m:in"), hT1'.mono (by walk_at "m:in"), layD, hok13⟩⟩
    case great r u et hmet hgr eres =>
      have hv0 : TyIn (z114.1.news ++ tl3) (.ref a1) (.adtR r u) := by rw [← et]; exact hv
      have hokB : (Ty.adtR r u).ok := by rw [← et]; exact hB.hok
      clear hm1
      refine TyIn.adtRE hv0 fun b1' c1' v1 k1 k1' k1'' n1 n1' n1'' hm1 hm2 hm3 hv1 => ?_
      replace hm1 := memOf (l' := z114.1.news ++ (tl3 ++ tl11)) (by walk_at "m:in") hm1
      replace hm2 := memOf (l' := z114.1.news ++ (tl3 ++ tl11)) (by walk_at "m:in") hm2
      replace hm3 := memOf (l' := z114.1.news ++ (tl3 ++ tl11)) (by walk_at "m:in") hm3
      k_steps
      refine Halt.mk ?_
      k_dflt (refine my_notIn (t := .adtR r u) (ts := z114.2.met_) (by k_asm) (by walk_at "m:el") (hM.mono (by walk_at "m:in")) (hv0.mono (by walk_at "m:in")) hB.hoks hokB ?hu ?_)
      case hu => (have h1 := hB.hdepth; rw [et] at h1; dsimp only [ktrTop, Around.deeper] at hun ⊢; omega)
      simp only [hmet, not_false_eq_true, decide_true]
      k_steps
      refine Halt.mk ?_
      k_dflt (refine' tellsX_use (c := greatT) (d := .adtR r u) (z114.1.news ++ (tl3 ++ tl11)) ?k1 ?k2 ?k3 ?k4 ?k5 ?kK (is_too_great_tells _ _ _ _ _ _ _) ?hs ?kR ?kd ?ku ?_)
      (((case k1 => k_asm); (case k2 => k_asm); (case k3 => k_asm); (case k4 => k_asm); (case k5 => k_asm); (case kK => first | exact rfl | assumption)))
      case hs => walk_at "m:in"
      case kd => exact bud hdp (Nat.le_of_ble_eq_true rfl)
      case ku => exact bud hun (Nat.le_of_ble_eq_true rfl)
      case kR => exact ⟨.mk (hv0.mono (by walk_at "m:in")), hokB⟩
      intro r14 tl14 h14 tk14 F14 N14 ho14 hO14
      obtain rfl := hO14
      rw [decide_eq_true hgr]
      simp only [List.cons_append, List.append_assoc] at N14
      have layE : Lay z114.1.L' z114.2.lf_ z114.2.ll_ z114.2.lm_ (z114.1.ext ++ z114.1.news) (tl3 ++ (tl11 ++ tl14)) := by
        have := layD.grow (tl2 := tl14) fun p hp => ho14 (z114.2.lm_, listOf z114.2.mvs_.toArray z114.2.nm_) (by walk_at "m:el") p hp
        simpa using this
      k_steps
      refine Halt.mk ?_
      k_dflt (refine fault_Raise (by exact rfl) ?_)
      k_steps
      refine Halt.mk ?_
      k_dflt (refine fault_tells _ _ _ _ _ _ _ _ _ _ _ _ _ _ _ _ _ _ _ _ _ _ _ _ _ _ (by k_asm) (by k_asm) (by k_asm) (by k_asm) (by k_asm) (by rfl) ?kd ?ku ?_)
      case kd => exact bud hdp (Nat.le_of_ble_eq_true rfl)
      case ku => exact bud hun (Nat.le_of_ble_eq_true rfl)
      intro e15 t15 dz15 h15 tk15 F15 N15 o15
      refine ⟨_, t15, some dz15, rfl, ?_, (N15 _ (.head _)).1, ?_⟩
      · exact fault_there (X'.keeps F15.keep)
      · k_steps
        have N16 : News z114.1.g z114.1.L' h15 ((e15, excO t15 (some dz15)) :: (t15, tupO [Value.str (Str.ofString "a signature's types go on too far") tk14] 0) :: ((101, tabOf 72 4 z114.2.s1'_) :: (80, tabOf 47 4 s03) :: (z114.1.ext ++ (z114.1.news ++ (tl3 ++ (tl11 ++ tl14)))))) := nsub N15 (by walk_at "m:in")
        refine leave_fault (by assumption) F15 N16 (fun p hp => ⟨Nat.ne_of_lt (o15 p ?_).1, Nat.ne_of_lt (o15 p ?_).2⟩) ?_
        · exact memOf (by walk_at "m:in") hp
        · exact memOf (by walk_at "m:in") hp
        intro h17 R17 U17
        exact hbad e15 t15 _ z114.1.g s03 z114.2.s1'_ (tl3 ++ (tl11 ++ tl14)) h17 tk15 eres FG' R17 U17 (hT03.mono (by walk_at "m:in")) (hT1'.mono (by walk_at "m:in")) (fun q hq p hp => (layE.ord (o := oC)) q hq p (.tail _ hp))
    case new r u et hmet hgr hrun =>
      have hv0 : TyIn (z114.1.news ++ tl3) (.ref a1) (.adtR r u) := by rw [← et]; exact hv
      have hokB : (Ty.adtR r u).ok := by rw [← et]; exact hB.hok
      clear hm1
      refine TyIn.adtRE hv0 fun b1' c1' v1 k1 k1' k1'' n1 n1' n1'' hm1 hm2 hm3 hv1 => ?_
      replace hm1 := memOf (l' := z114.1.news ++ (tl3 ++ tl11)) (by walk_at "m:in") hm1
      replace hm2 := memOf (l' := z114.1.news ++ (tl3 ++ tl11)) (by walk_at "m:in") hm2
      replace hm3 := memOf (l' := z114.1.news ++ (tl3 ++ tl11)) (by walk_at "m:in") hm3
      k_steps
      refine Halt.mk ?_
      k_dflt (refine my_notIn (t := .adtR r u) (ts := z114.2.met_) (by k_asm) (by walk_at "m:el") (hM.mono (by walk_at "m:in")) (hv0.mono (by walk_at "m:in")) hB.hoks hokB ?hu ?_)
      case hu => (have h1 := hB.hdepth; rw [et] at h1; dsimp only [ktrTop, Around.deeper] at hun ⊢; omega)
      simp only [hmet, not_false_eq_true, decide_true]
      k_steps
      refine Halt.mk ?_
      k_dflt (refine' tellsX_use (c := greatT) (d := .adtR r u) (z114.1.news ++ (tl3 ++ tl11)) ?k1 ?k2 ?k3 ?k4 ?k5 ?kK (is_too_great_tells _ _ _ _ _ _ _) ?hs ?kR ?kd ?ku ?_)
      (((case k1 => k_asm); (case k2 => k_asm); (case k3 => k_asm); (case k4 => k_asm); (case k5 => k_asm); (case kK => first | exact rfl | assumption)))
      case hs => walk_at "m:in"
      case kd => exact bud hdp (Nat.le_of_ble_eq_true rfl)
      case ku => exact bud hun (Nat.le_of_ble_eq_true rfl)
      case kR => exact ⟨.mk (hv0.mono (by walk_at "m:in")), hokB⟩
      intro r14 tl14 h14 tk14 F14 N14 ho14 hO14
      obtain rfl := hO14
      simp only [hgr, decide_false]
      simp only [List.cons_append, List.append_assoc] at N14
      replace hm1 := memOf (l' := z114.1.news ++ (tl3 ++ (tl11 ++ tl14))) (by walk_at "m:in") hm1
      replace hm2 := memOf (l' := z114.1.news ++ (tl3 ++ (tl11 ++ tl14))) (by walk_at "m:in") hm2
      replace hm3 := memOf (l' := z114.1.news ++ (tl3 ++ (tl11 ++ tl14))) (by walk_at "m:in") hm3
      have layE : Lay z114.1.L' z114.2.lf_ z114.2.ll_ z114.2.lm_ (z114.1.ext ++ z114.1.news) (tl3 ++ (tl11 ++ tl14)) := by
        have := layD.grow (tl2 := tl14) fun p hp => ho14 (z114.2.lm_, listOf z114.2.mvs_.toArray z114.2.nm_) (by walk_at "m:el") p hp
        simpa only [List.append_assoc] using this
      k_steps
      refine Halt.mk ?_
      k_dflt (refine my_append (vs := z114.2.mvs_) ((z114.2.lf_, listOf fvs3.toArray nf3) :: (z114.2.ll_, listOf (z114.2.ws_ ++ vs11.reverse).toArray n13) :: (z114.1.L' + 1, oC) :: (101, tabOf 72 4 z114.2.s1'_) :: (80, tabOf 47 4 s03) :: (z114.1.ext ++ (z114.1.news ++ (tl3 ++ (tl11 ++ tl14))))) (by k_asm) N14 (by walk_at "m:el") (by walk_at "m:in") (by walk_at "m:ap") ?hz ?_)
      case hz => (have h1 := hM.len; have h2 := hB.hmet; have h3 := sizeLine_eq; omega)
      intro h15 F15 N15
      have hW' := hW
      cases hW'
      rename_i wx wdx wda wr wdr wtr wtp wlv wrow wlf wpr woda wheld wn1 wn2 wn3 wn4 wn5 wn6 wn7 wn8 wn9 wk1 wk2 wk3 wk4 wk5 wk6 wk7 wk8 wk9 wk10 wk11 wk12 wk13 wk14 wk15 wk16 wk17 wk18 wk19 wk20 wu1 wu2 wu3 wu4 wu5 wu6 wu7 wv1 wv2 wv3 wv4 hx hdxS hdaS hdx hda hdaD hr hdr htr htp hlv hrow hlf hpr _ hheld
      k_steps
      refine Halt.mk ?_
      k_dflt (refine kba_turn (value' := Expr.Name (Str.ofString "_") ⟨0, 0, 0, 0⟩) (fun _ => rfl) ?_)
      k_dflt (refine kda_item (knd := PySem.strKind _ _) (by k_asm) (by k_mem) hdaD (strKind_is _ _ _ _) (by rw [valueAt_one, if_pos rfl]) ?_)
      k_steps
      refine Halt.mk ?_
      rename_i hR16 tkR t1 u1 v1 rg keepR iR lR tR hR2 tkR2 F16 N16
      k_dflt (refine LCp.ListComp_P (F₀ := by k_asm) (by with_unfolding_all rfl) (by decide) (by rfl) (by decide) (by rfl) (by rfl) (by decide) ?_)
      k_steps
      refine Halt.mk ?_
      have b6 : @LT.lt Nat _ z114.2.lm_ iR := lR.1
      k_dflt (refine' tellsF_use (d := ⟨r, u, z114.2.inner_, z114.2.s1'_⟩) ((iR, _) :: (z114.2.lm_, listOf (z114.2.mvs_ ++ [Value.ref a1]).toArray (z114.2.nm_ + 1)) :: (z114.2.lf_, listOf fvs3.toArray nf3) :: (z114.2.ll_, listOf (z114.2.ws_ ++ vs11.reverse).toArray n13) :: (z114.1.L' + 1, oC) :: (80, tabOf 47 4 s03) :: z114.1.ext) (z114.1.news ++ (tl3 ++ (tl11 ++ tl14))) ?k1 ?k2 ?k3 ?k4 ?k5 ?kK (fields_of_tells _ _ _ _ _ _ _) H1 ?hs ?off ?kR ?kd ?ku ?_)
      (((case k1 => k_asm); (case k2 => k_asm); (case k3 => k_asm); (case k4 => k_asm); (case k5 => k_asm); (case kK => first | exact rfl | assumption)))
      case hs => walk_at "m:in"
      case off => (simp only [List.cons_append]; walk_at "m:ap")
      case kR => exact ⟨⟨_, _, _, rfl, hv0.mono (by walk_at "m:in"), hW.mono (by walk_at "m:in")⟩, hT1'.mono (by walk_at "m:in")⟩
      case kd => exact bud2 hdp hin (Nat.le_of_ble_eq_true rfl)
      case ku => exact bud8 hun hin (Nat.le_of_ble_eq_true rfl)
      intro c17 l17 n17 pr17 k17 n17' v17 tl17 h17 tk17 F17 N17 ho17 hT17 hpr17 hv17
      simp only [List.cons_append, List.append_assoc] at N17 hT17 hpr17
      k_steps
      rename (_ ∧ _) ∧ _ => offc
      rename Fr _ _ _ _ => Fc
      rename News _ _ _ _ => Nc
      (try dsimp only)
      repeat' (k_unfold; (try dsimp only))
      have offd : LCg.Off3 _ _ _ ((l17, listOf #[Value.ref pr17] n17) :: (101, tabOf 72 4 (some c17)) :: (iR, itR (0 + ((0 + 1 : Nat) : Int)) (((1 : Nat) : Int) - ((0 + 1 : Nat) : Int))) :: (z114.2.lm_, listOf (z114.2.mvs_ ++ [Value.ref a1]).toArray (z114.2.nm_ + 1)) :: (z114.2.lf_, listOf fvs3.toArray nf3) :: (z114.2.ll_, listOf (z114.2.ws_ ++ vs11.reverse).toArray n13) :: (z114.1.L' + 1, oC) :: (80, tabOf 47 4 s03) :: (z114.1.ext ++ (z114.1.news ++ (tl3 ++ (tl11 ++ (tl14 ++ tl17)))))) := offc
      refine compEnd_mk Fc (nsub Nc (by walk_at "m:in")) offd (.inr ⟨_, by k_mem, rfl, _, rfl⟩) ?_
      refine LCp.CompRestP.zero ?_
      unfold LCg.FinE
      intro D18 h18 tk18 F18 N18 o18
      simp only [List.nil_append, List.cons_append, List.append_assoc] at N18
      k_steps
      refine Halt.mk ?_
      have layF : Lay z114.1.L' z114.2.lf_ z114.2.ll_ z114.2.lm_ (z114.1.ext ++ z114.1.news) (tl3 ++ (tl11 ++ (tl14 ++ tl17))) := by
        have := layE.grow (tl2 := tl17) fun p hp => ho17 (z114.2.lm_, listOf (z114.2.mvs_ ++ [Value.ref a1]).toArray (z114.2.nm_ + 1)) (by walk_at "m:el") p hp
        simpa only [List.append_assoc] using this
      k_dflt (refine my_extendL (vs := z114.2.ws_ ++ vs11.reverse) (ws := [v17]) (n2 := 1) ((iR, itR (0 + ((0 + 1 : Nat) : Int)) (((1 : Nat) : Int) - ((0 + 1 : Nat) : Int))) :: (z114.2.lm_, listOf (z114.2.mvs_ ++ [Value.ref a1]).toArray (z114.2.nm_ + 1)) :: (z114.2.lf_, listOf fvs3.toArray nf3) :: (z114.1.L' + 1, oC) :: (101, tabOf 72 4 (some c17)) :: (80, tabOf 47 4 s03) :: (z114.1.ext ++ (z114.1.news ++ (tl3 ++ (tl11 ++ (tl14 ++ tl17)))))) (by k_asm) N18 (by walk_at "m:el") (N18 _ (.head _)).1 (by walk_at "m:in") (by walk_at "m:ap") ?hz ?_)
      case hz => (have h1 := hLl; have h2 := hB.hts; have h3 := sizeLine_eq; have h4 := hl11; have h5 := hl12; simp only [List.length_reverse, List.length_append, List.length_cons, List.length_nil] at h1 h2 ⊢; omega)
      intro h19 n19 F19 N19
      k_steps
      (try dsimp only)
      repeat' (k_unfold; (try dsimp only))
      have offR : ∀ p ∈ z114.1.ext ++ (z114.1.news ++ (tl3 ++ (tl11 ++ (tl14 ++ tl17)))), p.1 ≠ iR := fun p hp => by
        have hp' : p ∈ (z114.1.ext ++ (z114.1.news ++ (tl3 ++ (tl11 ++ tl14)))) ++ tl17 := by simpa only [List.append_assoc] using hp
        rcases List.mem_append.mp hp' with hp | hp
        · exact Nat.ne_of_lt (ktn_ltOf lR.2.2.2.2.2.2 p hp)
        · exact Nat.ne_of_gt (ho17 (iR, itR (0 + ((0 + 1 : Nat) : Int)) (((1 : Nat) : Int) - ((0 + 1 : Nat) : Int))) (.tail _ (.head _)) p hp)
      refine UnrEnd.intro F19 N19 ((z114.2.lf_, listOf fvs3.toArray nf3) :: (z114.2.ll_, listOf (z114.2.ws_ ++ vs11.reverse ++ [v17]).toArray n19) :: (z114.2.lm_, listOf (z114.2.mvs_ ++ [Value.ref a1]).toArray (z114.2.nm_ + 1)) :: (z114.1.L' + 1, oC) :: (101, tabOf 72 4 (some c17)) :: (80, tabOf 47 4 s03) :: (z114.1.ext ++ (z114.1.news ++ (tl3 ++ (tl11 ++ (tl14 ++ tl17)))))) (by walk_at "m:in") (by walk_at "m:ap") ?_
      replace hm1 := memOf (l' := z114.1.news ++ (tl3 ++ (tl11 ++ (tl14 ++ tl17)))) (by walk_at "m:in") hm1
      k_steps
      (try dsimp only)
      repeat' (k_unfold; (try dsimp only))
      have hokF : (fieldOf z114.2.inner_ r u).ok := fieldOf_ok hokIn hokB.1 hokB.2
      have hTF : TabOk q101 (z114.1.ext ++ (z114.1.news ++ (tl3 ++ (tl11 ++ (tl14 ++ tl17))))) (some c17) := ((((((hT17.drop fun vs t e => by cases e; exact fun h => by cases h).drop fun vs t e => by cases e).drop fun vs t e => by cases e).drop fun vs t e => by cases e).drop fun vs t e => by rw [hoC] at e; cases e).drop tabOf_no)
      refine StepR.next (by assumption) (nsub (by assumption) (l' := (z114.2.lf_, listOf fvs3.toArray nf3) :: (z114.2.ll_, listOf (z114.2.ws_ ++ vs11.reverse ++ [v17]).toArray n19) :: (z114.2.lm_, listOf (z114.2.mvs_ ++ [Value.ref a1]).toArray (z114.2.nm_ + 1)) :: (z114.1.L' + 1, oC) :: (101, tabOf 72 4 (some c17)) :: (80, tabOf 47 4 s03) :: (z114.1.ext ++ (z114.1.news ++ (tl3 ++ (tl11 ++ (tl14 ++ tl17)))))) (by walk_at "m:in")) (n' := z114.2.kN_) (Nat.lt_succ_self _) ⟨_, _, _, _, _, _, _, _, nf3, n19, z114.2.nm_ + 1, oC, _, some c17, _, ⟨hrun, rfl, rfl, rfl, rfl, rfl, rfl, ⟨_, hoC⟩, (hF3.mono (by walk_at "m:in")), (hL13.mono (by walk_at "m:in")).append (.cons (hv17.mono (by walk_at "m:in")) .nil), (hM.mono (by walk_at "m:in")).append (.cons (hv0.mono (by walk_at "m:in")) .nil), hT03.mono (by walk_at "m:in"), hTF, layF, by intro x hx; rcases List.mem_append.mp hx with hx | hx; exact hok13 x hx; rw [List.mem_singleton.mp hx]; exact hokF⟩⟩
theorem implied_tells : ∀ (w : World) (p : Program) (loose : List Str) (mean : ExcName → Option Value) (mg mb : Str → Option Value) (inner t0 : Ty) (res : Option (List (Str × Str))), TellsI PySem.Challenge.rw_xw0159_01.row.prog w (hd.heap_1 w.params) p loose mean mg mb inner t0 res := cut114.2 fun w p loose mean mg mb dp un gd cn cs a ccd cl outer A₀ base h₀ L m ext news s Q E g' L' h' inner t0 s0 s1 vt lf ll lm hy9 tkb m₁ h₁ tk₁ found met tk fvs mvs nf nl nm oH s0' s1' tl kN ts ws => pick_is (P := fun z : Pt × Z114 => cut114.1 z.1.w z.1.p z.1.loose z.1.mean z.1.mg z.1.mb z.1.dp z.1.un z.1.gd z.1.cn z.1.cs z.1.a z.1.ccd z.1.cl z.1.outer z.1.A₀ z.1.base z.1.h₀ z.1.L z.1.m z.1.ext z.1.news z.1.s z.1.Q z.1.E z.1.g z.1.L' z.1.h' z.2.inner_ z.2.t0_ z.2.s0_ z.2.s1_ z.2.vt_ z.2.lf_ z.2.ll_ z.2.lm_ z.2.hy9_ z.2.tkb_ z.2.m1_ z.2.h1_ z.2.tk1_ z.2.found_ z.2.met_ z.2.tk_ z.2.fvs_ z.2.mvs_ z.2.nf_ z.2.nl_ z.2.nm_ z.2.oH_ z.2.s0'_ z.2.s1'_ z.2.tl_ z.2.kN_ z.2.ts_ z.2.ws_) (a := (pt0, ⟨.bool, .bool, default, default, default, default, default, default, default, default, fun _ => none, default, default, [], [], default, [], [], default, default, default, default, default, default, [], default, [], []⟩)) (by delta z114; rfl) implied_b (⟨w, p, loose, mean, mg, mb, dp, un, gd, cn, cs, a, ccd, cl, outer, A₀, base, h₀, L, m, ext, news, s, Q, E, g', L', h'⟩, ⟨inner, t0, s0, s1, vt, lf, ll, lm, hy9, tkb, m₁, h₁, tk₁, found, met, tk, fvs, mvs, nf, nl, nm, oH, s0', s1', tl, kN, ts, ws⟩)
end Mine
end SP10
/-! L28 -/
section SL28
open PySem.Spec PySem.Calls
namespace Mine
/-! implied's own runs, reckoned -/
noncomputable def Ty.okb : Ty → Bool
  | .bool | .u8 => true
  | .par x => PyData.strOk x
  | .box t | .arr _ t | .tup1 t | .tup2 t | .adtS t => t.okb
  | .rf r t | .adtR r t => PyData.strOk r && t.okb
theorem Ty.okb_ok {t : Ty} (h : t.okb = true) : t.ok := by
  induction t <;> simp_all [Ty.okb, Ty.ok]
noncomputable def bndb (found : List (Str × Str)) (n : Nat) (met : List Ty) (here : Ty) (many : Nat) : Bool :=
  decide (many + 1 ≤ 4000) && (decide (found.length ≤ 100000) && (decide (n ≤ 100000) && (decide (met.length ≤ 100000) && (decide (here.depth ≤ 220) && (here.okb && met.all Ty.okb)))))
theorem bndb_bnd {found : List (Str × Str)} {ts met : List Ty} {here : Ty} {many n : Nat} (hn : n = ts.length) (h : bndb found n met here many = true) : Bnd found ts met here many := by
  subst hn
  simp only [bndb, Bool.and_eq_true, decide_eq_true_eq, List.all_eq_true] at h
  obtain ⟨h1, h2, h3, h4, h5, h6, h7⟩ := h
  exact ⟨h1, h2, h3, h4, h5, Ty.okb_ok h6, fun t ht => Ty.okb_ok (h7 t ht)⟩
noncomputable def runF (inner : Ty) : Nat → List (Str × Str) → List Ty → List Ty → Nat → Option (Option (List (Str × Str)))
  | _, found, [], _, _ => some (some found)
  | 0, _, _ :: _, _, _ => none
  | fuel + 1, found, t :: r, met, many =>
    if bndb found r.length met t many then
      match t with
      | .rf x u => runF inner fuel (found ++ (u.regs ++ u.params).map fun y => (y, x)) (u :: r) met (many + 1)
      | .adtR x u =>
        if Ty.adtR x u ∈ met then runF inner fuel found (u :: r) met (many + 1)
        else if 200 < (Ty.adtR x u).depth then some none
        else runF inner fuel found (fieldOf inner x u :: u :: r) (met ++ [.adtR x u]) (many + 1)
      | .adtS _ => none
      | .bool => runF inner fuel found r met (many + 1)
      | .u8 => runF inner fuel found r met (many + 1)
      | .par _ => runF inner fuel found r met (many + 1)
      | .box u => runF inner fuel found (u :: r) met (many + 1)
      | .arr _ u => runF inner fuel found (u :: r) met (many + 1)
      | .tup1 u => runF inner fuel found (u :: r) met (many + 1)
      | .tup2 u => runF inner fuel found (.u8 :: u :: r) met (many + 1)
    else none
theorem runF_sound {inner : Ty} : ∀ (fuel : Nat) (found : List (Str × Str)) (r met : List Ty) (many : Nat) (res : Option (List (Str × Str))), runF inner fuel found r met many = some res → ∃ k, RunN inner k found r.reverse met many res := by
  intro fuel
  induction fuel with
  | zero =>
    intro found r met many res h
    cases r with
    | nil => simp only [runF] at h; cases h; exact ⟨0, .done⟩
    | cons t r => simp only [runF] at h; cases h
  | succ fuel ih =>
    intro found r met many res h
    cases r with
    | nil => simp only [runF] at h; cases h; exact ⟨0, .done⟩
    | cons t r =>
      unfold runF at h
      split at h
      · rename_i hb
        have B : Bnd found r.reverse met t many := bndb_bnd (by simp) hb
        have low : ∀ ps : List Ty, t.plain → t.parts = ps → runF inner fuel found (ps ++ r) met (many + 1) = some res → ∃ k, RunN inner k found (t :: r).reverse met many res := by
          intro ps hp e h
          obtain ⟨k, hk⟩ := ih _ _ _ _ _ h
          rw [List.reverse_append, ← e] at hk
          rw [List.reverse_cons]
          exact ⟨k + 1, .plain B hp hk⟩
        cases t with
        | rf x u =>
          obtain ⟨k, hk⟩ := ih _ _ _ _ _ h
          rw [List.reverse_cons] at hk ⊢
          exact ⟨k + 1, .ref B hk⟩
        | adtR x u =>
          dsimp only at h
          split at h
          · obtain ⟨k, hk⟩ := ih _ _ _ _ _ h
            rw [List.reverse_cons] at hk ⊢
            exact ⟨k + 1, .old B ‹_› hk⟩
          · split at h
            · cases h
              rw [List.reverse_cons]
              exact ⟨0 + 1, .great B ‹_› ‹_›⟩
            · obtain ⟨k, hk⟩ := ih _ _ _ _ _ h
              rw [List.reverse_cons, List.reverse_cons] at hk
              rw [List.reverse_cons]
              exact ⟨k + 1, .new B ‹_› ‹_› hk⟩
        | adtS u => dsimp only at h; cases h
        | bool => exact low [] trivial rfl h
        | u8 => exact low [] trivial rfl h
        | par x => exact low [] trivial rfl h
        | box u => exact low [u] trivial rfl h
        | arr n u => exact low [u] trivial rfl h
        | tup1 u => exact low [u] trivial rfl h
        | tup2 u => exact low [.u8, u] trivial rfl h
      · cases h
/-- what the law's world puts within, by its way -/
noncomputable def innerOf (way : Nat) : Nat → Ty
  | 0 => .par (Str.ofString "T")
  | n + 1 => if way = 1 then .box (innerOf way n) else if way = 2 then .arr 1 (innerOf way n) else .rf (Str.ofString "'a") (innerOf way n)
noncomputable def inn (way : Nat) : Ty := innerOf way (if way = 0 then 0 else 50)
noncomputable def argU : Ty := .par (Str.ofString "U")
noncomputable def argD : Ty := .rf (Str.ofString "'d") .bool
noncomputable def rC (t : Ty) : Ty := .adtR (Str.ofString "'c") t
noncomputable abbrev pc : Str × Str := (Str.ofString "'c", Str.ofString "'c")
theorem runs_of {inner t : Ty} {res : Option (List (Str × Str))} (n : Nat) (h : runF inner n [] [t] [] 0 = some res) : ∃ k, RunN inner k [] [t] [] 0 res := runF_sound n [] [t] [] 0 res h
theorem run_great : ∃ k, RunN (inn 0) k [] [rC (boxes 199)] [] 0 none := runs_of 5 (by decide +kernel)
theorem run_U0 : ∃ k, RunN (inn 0) k [] [rC argU] [] 0 (some [pc, (Str.ofString "U", Str.ofString "'c")]) := runs_of 20 (by decide +kernel)
theorem run_D0 : ∃ k, RunN (inn 0) k [] [rC argD] [] 0 (some [pc, (Str.ofString "'d", Str.ofString "'c")]) := runs_of 20 (by decide +kernel)
theorem run_B0 : ∃ k, RunN (inn 0) k [] [rC .bool] [] 0 (some [pc]) := runs_of 20 (by decide +kernel)
theorem run_U1 : ∃ k, RunN (inn 1) k [] [rC argU] [] 0 none := runs_of 20 (by decide +kernel)
theorem run_U2 : ∃ k, RunN (inn 2) k [] [rC argU] [] 0 none := runs_of 20 (by decide +kernel)
theorem run_U3 : ∃ k, RunN (inn 3) k [] [rC argU] [] 0 none := runs_of 20 (by decide +kernel)
theorem run_D1 : ∃ k, RunN (inn 1) k [] [rC argD] [] 0 none := runs_of 20 (by decide +kernel)
theorem run_D2 : ∃ k, RunN (inn 2) k [] [rC argD] [] 0 none := runs_of 20 (by decide +kernel)
theorem run_D3 : ∃ k, RunN (inn 3) k [] [rC argD] [] 0 none := runs_of 20 (by decide +kernel)
theorem run_B1 : ∃ k, RunN (inn 1) k [] [rC .bool] [] 0 none := runs_of 20 (by decide +kernel)
theorem run_B2 : ∃ k, RunN (inn 2) k [] [rC .bool] [] 0 none := runs_of 20 (by decide +kernel)
theorem run_B3 : ∃ k, RunN (inn 3) k [] [rC .bool] [] 0 none := runs_of 20 (by decide +kernel)
theorem inn_depth (way : Nat) : (inn way).depth ≤ 60 := by
  have h : ∀ n, (innerOf way n).depth = n + 1 := by
    intro n
    induction n with
    | zero => rfl
    | succ n ih => unfold innerOf; split; · simp [Ty.depth, ih]
                   · split <;> simp [Ty.depth, ih]
  unfold inn
  rw [h]
  split <;> omega
theorem inn_ok (way : Nat) : (inn way).ok := by
  have h : ∀ n, (innerOf way n).ok := by
    intro n
    induction n with
    | zero => show PyData.strOk _ = true; decide +kernel
    | succ n ih => unfold innerOf; split; · exact ih
                   · split
                     · exact ih
                     · exact ⟨by decide +kernel, ih⟩
  exact h _
end Mine
end SL28
/-! P13 -/
section SP13
open PySem.Spec PySem.Calls
namespace Mine
/-- a contract at one depth of the caller's -/
noncomputable def TellsXd (dp : Nat) {D : Type} (prog : Program) (w : World) (K : Frag) (p : Program) (loose : List Str) (mean : ExcName → Option Value) (mg mb : Str → Option Value) (f : Addr) (c : ToldX D) (d : D) : Prop :=
  ∀ (un : Nat) (gd : Option (List Code)) (cn : Str) (cs : Scope) (a : Addr) (ccd : Value) (cl : List (Str × Addr)) (outer : List Env) (A₀ : Around) (base h₀ : Heap) (L : Addr) (m : Str → Option Value) (ext news : List (Addr × Obj)) (s : Shared) (vs : List Value)
    (Q E : Value → Shared → Prop),
    Below A₀ base outer h₀ → Fr h₀ L s.heap m → K.In h₀ → News h₀ L s.heap (ext ++ news) → Top p loose mean mg mb h₀ → cs.kind = .function → c.Rel (ext ++ news) news vs d → dp + c.size d < recursionLimit → un + 8 * c.size d < cLine →
    (∀ r tl h' tk', Fr h₀ L h' m → News h₀ L h' (ext ++ (news ++ tl)) → (∀ q ∈ ext ++ news, ∀ p ∈ tl, q.1 < p.1) → c.Out (news ++ tl) r d → Q r { s with heap := h', toks := tk' }) →
    wpAny (model prog w) (ktrTop dp un gd cn cs L a ccd cl outer) (call (.ref f) vs) Q E s
theorem tellsXd_use {D : Type} {prog : Program} {w : World} {K : Frag} {p : Program} {loose : List Str} {mean : ExcName → Option Value} {mg mb : Str → Option Value} {f : Addr} {c : ToldX D} {d : D} {dp un : Nat} {gd : Option (List Code)} {cn : Str} {cs : Scope} {a : Addr} {ccd : Value} {cl : List (Str × Addr)} {outer : List Env} {A₀ : Around} {base h₀ : Heap} {L : Addr} {m : Str → Option Value} {all : List (Addr × Obj)} {s : Shared} {vs : List Value}
    {Q E : Value → Shared → Prop} (core : List (Addr × Obj)) (B : Below A₀ base outer h₀) (F : Fr h₀ L s.heap m) (X : K.In h₀) (N : News h₀ L s.heap all) (T : Top p loose mean mg mb h₀) (hk : cs.kind = .function) (C : TellsXd dp prog w K p loose mean mg mb f c d)
    (hs : ∀ p ∈ core, p ∈ all) (R : c.Rel (all ++ core) core vs d)
    (hd : dp + c.size d < recursionLimit) (hu : un + 8 * c.size d < cLine)
    (ret : ∀ r tl h' tk', Fr h₀ L h' m → News h₀ L h' (all ++ tl) → (∀ q ∈ all, ∀ p ∈ tl, q.1 < p.1) → c.Out (core ++ tl) r d → Q r { s with heap := h', toks := tk' }) :
    wpAny (model prog w) (ktrTop dp un gd cn cs L a ccd cl outer) (call (.ref f) vs) Q E s :=
  C _ _ _ _ _ _ _ _ _ _ _ _ _ all core _ _ _ _ B F X (fun p hp => N p ((List.mem_append.mp hp).elim id (hs p))) T hk R hd hu fun r tl h' tk' F' N' o out =>
    ret r tl h' tk' F' (fun p hp => N' p ((List.mem_append.mp hp).elim (fun h => memL h) fun h => memR (memR h))) (fun q hq => o q (memL hq)) out
noncomputable abbrev worldT (w : World) : ToldX Nat where
  Rel := fun all _ vs d => d ≤ 3 ∧ (∃ p ∈ all, @LT.lt Nat _ 1 p.1) ∧ ∃ tk, vs = [Value.int (d : Int) tk]
  size := fun _ => 20
  Out := fun news r d => WorldIn w news r (inn d)
local macro_rules | `(tactic| walk_at "m:cj") => `(tactic| with_reducible first | assumption | exact cj1 ‹_› | exact cj2 ‹_› | exact cj3 ‹_› | exact cj4 ‹_› | exact cj5 ‹_› | exact cj6 ‹_› | exact cj7 ‹_› | exact cj8 ‹_› | exact cj9 ‹_› | exact cj10 ‹_› | exact cj11 ‹_› | exact cj12 ‹_› | exact cj13 ‹_› | exact cj14 ‹_›)
local macro_rules | `(tactic| k_ne) => `(tactic| (refine neN ?_; (try dsimp only); first | (refine Nat.ne_of_gt ?_; walk_at "m:cj") | (refine Nat.ne_of_lt ?_; walk_at "m:cj") | omega))
set_option hygiene false in
local macro_rules | `(tactic| walk_at "execs cons") => `(tactic| (k_here; (try k_gentoks); (try k_fold); (with_reducible refine execsN ?_)))
local macro_rules | `(tactic| walk_at "m:mem") => `(tactic| first | assumption | exact List.Mem.head _ | (with_reducible refine memTail ?_; walk_at "m:mem") | (with_reducible refine memR ?_; walk_at "m:mem") | (with_reducible refine memL ?_; walk_at "m:mem"))
local macro_rules | `(tactic| k_mem) => `(tactic| walk_at "m:mem")
local macro_rules | `(tactic| walk_at "eval Tuple") => `(tactic| (k_here; k_fold))
local macro_rules | `(tactic| walk_at "eval List") => `(tactic| (k_here; k_fold))
local macro_rules | `(tactic| walk_at "pyIter ref") => `(tactic| (k_here; refine Halt.go ?_))
noncomputable def StopIf : Prop := True
local macro_rules | `(tactic| walk_at "subscriptTail") => `(tactic| (k_here; refine Halt.go ?_))
theorem item3 {prog : Program} {w : World} {A : Around} {E : Value → Shared → Prop} {s : Shared} {value slice : Expr} {h₀ : Heap} {L a : Addr} {all : List (Addr × Obj)} {v1 v2 v3 : Value} {n d : Nat} {u : Tok} {Q : Value → Shared → Prop}
    (N : News h₀ L s.heap all) (hm : (a, listOf [v1, v2, v3].toArray n) ∈ all) (hd : d = 1 ∨ d = 2 ∨ d = 3) (h : ∀ v, (d = 1 ∧ v = v1) ∨ (d = 2 ∧ v = v2) ∨ (d = 3 ∧ v = v3) → Q v s)
    (hs : subscripted slice false (.ref a) (.int ((d : Int) - 1) u) = operate [.ref a, .int ((d : Int) - 1) u] (getItem (.ref a) (.int ((d : Int) - 1) u))) :
    wpAny (model prog w) A (subscriptTail value slice (.ref a) (.int ((d : Int) - 1) u)) Q E s := by
  rcases hd with rfl | rfl | rfl
  · exact item_litK (my_isList N hm) (by decide) (by decide) rfl (h _ (.inl ⟨rfl, rfl⟩)) hs
  · exact item_litK (my_isList N hm) (by decide) (by decide) rfl (h _ (.inr (.inl ⟨rfl, rfl⟩))) hs
  · exact item_litK (my_isList N hm) (by decide) (by decide) rfl (h _ (.inr (.inr ⟨rfl, rfl⟩))) hs
local macro_rules | `(tactic| walk_at "eval IfExp") => `(tactic| (k_here; rename StopIf => hStopIf; refine Halt.go ?_))
theorem ifexp_use {M : Model} {A : Around} {t : Sem Value} {Q : Value → Shared → Prop} {E : Value → Shared → Prop} {s : Shared} (n : Int) (h : wpAny M A t (fun v s' => (∃ tk, v = .int n tk) ∧ ∃ tk', s' = { s with toks := tk' }) E s) (k : ∀ tk tk', Q (.int n tk) { s with toks := tk' }) : wpAny M A t Q E s :=
  wpAny_mono h (fun v s' h => by obtain ⟨⟨tk, rfl⟩, tk', rfl⟩ := h; exact k tk tk') fun _ _ e => e
theorem small0 (d : Nat) : Builtin.Range.small 0 (if d = 0 then 0 else 50) 1 = true := by split <;> decide
theorem size0 (d : Nat) : Builtin.Range.rangeSize 0 (if d = 0 then 0 else 50) 1 = ((if d = 0 then 0 else 50 : Nat) : Int) := by split <;> decide
local macro_rules | `(tactic| walk_at "call builtin:dict.update") => `(tactic| (k_here; refine Halt.go ?_))
local macro_rules | `(tactic| walk_at "m:el") => `(tactic| with_reducible first | exact memHead | (refine memTail ?_; walk_at "m:el") | (refine memR ?_; walk_at "m:el") | (refine memL ?_; walk_at "m:el"))
local macro_rules | `(tactic| walk_at "m:in") => `(tactic| with_reducible first | assumption | exact subRefl | exact subNil | (refine subCons ?_ ?_; (walk_at "m:el"); (walk_at "m:in")) | (refine subApp ?_ ?_; (walk_at "m:in"); (walk_at "m:in")) | (refine subTail ?_; walk_at "m:in") | (refine subR ?_; walk_at "m:in") | (refine subL ?_; walk_at "m:in"))
theorem foldl_inner' (d : Nat) : ∀ (l : List Int) (n : Nat), l.foldl (fun t _ => if d = 1 then .box t else if d = 2 then .arr 1 t else .rf (Str.ofString "'a") t) (innerOf d n) = innerOf d (n + l.length)
  | [], n => rfl
  | _ :: r, n => by
    have := foldl_inner' d r (n + 1)
    simp only [List.foldl_cons, List.length_cons]
    rw [show n + (r.length + 1) = n + 1 + r.length by omega]
    exact this
theorem foldl_inner {d : Nat} {a : Int} : (rangeKs a (if d = 0 then 0 else 50)).foldl (fun t _ => if d = 1 then .box t else if d = 2 then .arr 1 t else .rf (Str.ofString "'a") t) (.par (Str.ofString "T")) = inn d := by
  have := foldl_inner' d (rangeKs a (if d = 0 then 0 else 50)) 0
  rw [rangeKs_length, Nat.zero_add] at this
  exact this
theorem ltSz {h₀ h : Heap} {L d : Addr} {o : Obj} {l : List (Addr × Obj)} (N : News h₀ L h l) (hm : (d, o) ∈ l) : @LT.lt Nat _ d h.objs.size := Heap.lt_size (N _ hm).1
/-- the new part of a ledger -/
noncomputable def newer (dx da : Addr) (A : List (Addr × Obj)) : List (Addr × Obj) := A.filter fun p => decide (@LT.lt Nat _ da p.1) || (decide (@LE.le Nat _ dx p.1) && decide (@LT.lt Nat _ p.1 da))
theorem world_end {h₀ h : Heap} {L : Addr} {ext news A : List (Addr × Obj)} {dx da : Addr} {o' : Obj} (N : News h₀ L h ((da, o') :: A.filter (fun p => !(p.1 == da)))) (hsub : ∀ p ∈ ext ++ news, p ∈ A) (l9 : ∀ p ∈ ext ++ news, p.1 < dx) (hdd : @LT.lt Nat _ dx da) :
    News h₀ L h (ext ++ (news ++ ((da, o') :: newer dx da A))) ∧ (∀ q ∈ ext ++ news, ∀ p ∈ (da, o') :: newer dx da A, q.1 < p.1) := by
  refine ⟨nsub N fun p hp => ?_, fun q hq p hp => ?_⟩
  · have old : p ∈ ext ++ news → p ∈ (da, o') :: A.filter (fun p => !(p.1 == da)) := fun h => by
      refine .tail _ (List.mem_filter.mpr ⟨hsub p h, ?_⟩)
      have := Nat.ne_of_lt (Nat.lt_trans (l9 p h) hdd)
      simpa using this
    rcases List.mem_append.mp hp with hp | hp
    · exact old (memL hp)
    · rcases List.mem_append.mp hp with hp | hp
      · exact old (memR hp)
      · rcases List.mem_cons.mp hp with rfl | hp
        · exact .head _
        · obtain ⟨h1, h2⟩ := List.mem_filter.mp hp
          refine .tail _ (List.mem_filter.mpr ⟨h1, ?_⟩)
          simp only [Bool.or_eq_true, Bool.and_eq_true, decide_eq_true_eq] at h2
          have : p.1 ≠ da := by
            rcases h2 with h2 | h2
            · exact Nat.ne_of_gt h2
            · exact Nat.ne_of_lt h2.2
          simpa using this
  · have hq1 := l9 q hq
    rcases List.mem_cons.mp hp with rfl | hp
    · exact Nat.lt_trans hq1 hdd
    · obtain ⟨h1, h2⟩ := List.mem_filter.mp hp
      simp only [Bool.or_eq_true, Bool.and_eq_true, decide_eq_true_eq] at h2
      rcases h2 with h2 | h2
      · exact Nat.lt_trans hq1 (Nat.lt_trans hdd h2)
      · exact Nat.lt_of_lt_of_le hq1 h2.1
theorem pickHi {news A : List (Addr × Obj)} {q : Addr × Obj} {dx da a : Addr} {o : Obj} (hm : (a, o) ∈ A) (h : @LT.lt Nat _ da a) : (a, o) ∈ news ++ (q :: newer dx da A) :=
  memR (.tail _ (List.mem_filter.mpr ⟨hm, by simp [h]⟩))
theorem pickLo {news A : List (Addr × Obj)} {q : Addr × Obj} {dx da a : Addr} {o : Obj} (hm : (a, o) ∈ A) (h : @LE.le Nat _ dx a) (h2 : @LT.lt Nat _ a da) : (a, o) ∈ news ++ (q :: newer dx da A) :=
  memR (.tail _ (List.mem_filter.mpr ⟨hm, by simp [h, h2]⟩))
inductive WldRel (q0 : Addr × Obj) (base : List (Addr × Obj)) (l : List (Addr × Obj)) (v : Value) (t : Ty) : Prop
  | mk (tl : List (Addr × Obj)) : l = base ++ tl → (∀ q ∈ base, ∀ p ∈ tl, q.1 < p.1) → TyIn (q0 :: tl) v t → WldRel q0 base l v t
theorem seeP {l l' : List (Addr × Obj)} {D : Addr} {x y : Str} {k k' : Tok} {n : Nat} {G : Prop} (e : l' = l) (hm : (D, tupO [.str x k, .str y k'] n) ∈ l) (K : ∀ k k' n, (D, tupO [.str x k, .str y k'] n) ∈ l' → G) : G := K _ _ _ (e ▸ hm)
theorem seeW {w : World} {l l' : List (Addr × Obj)} {dx da : Addr} {u1 u2 u3 u4 u5 u6 u7 : Value} {k1 k2 k3 k4 k5 k6 k7 k8 : Tok} {n1 : Nat} {G : Prop} (e : l' = l)
    (hm : (dx, dictOf [ent w "modules" k1 u1, ent w "adts" k2 (.ref da), ent w "variants" k3 u2, ent w "sigs" k4 u3, ent w "traits" k5 u4, ent w "impls" k6 u5, ent w "consts" k7 u6, ent w "bodies" k8 u7] n1) ∈ l)
    (K : ∀ k1 u1 k2 k3 u2 k4 u3 k5 u4 k6 u5 k7 u6 k8 u7 n1, (dx, dictOf [ent w "modules" k1 u1, ent w "adts" k2 (.ref da), ent w "variants" k3 u2, ent w "sigs" k4 u3, ent w "traits" k5 u4, ent w "impls" k6 u5, ent w "consts" k7 u6, ent w "bodies" k8 u7] n1) ∈ l' → G) : G := K _ _ _ _ _ _ _ _ _ _ _ _ _ _ _ _ (e ▸ hm)
theorem withL {h₀ h : Heap} {L : Addr} {l : List (Addr × Obj)} {G : Prop} (N : News h₀ L h l) (k : ∀ l', l' = l → News h₀ L h l' → G) : G := k l rfl N
theorem wturn {h₀ h h' : Heap} {L : Addr} {m₀ m' : Str → Option Value} {bse tl own all : List (Addr × Obj)} {q0 q : Addr × Obj} {v' : Value} {t' : Ty} {x y : Str} {s : Shared} {tk tk' : Nat}
    (hq : ∀ p ∈ bse ++ (tl ++ own), p.1 < q.1) (F' : Fr h₀ L h' m') (N' : News h₀ L h' all) (hall : ∀ p ∈ q :: (bse ++ (tl ++ own)), p ∈ all) (hoff : TbOff own (bse ++ tl)) (hto : OwnOff tl (bse.map (·.1)))
    (hord : ∀ q ∈ bse, ∀ p ∈ tl, q.1 < p.1) (hT : TyIn (q0 :: (tl ++ [q])) v' t') (hy : m' y = some v') (hm : ∀ z, z ≠ x → z ≠ y → m' z = m₀ z) :
    TbEnd h₀ L (TbKeep (WldRel q0 bse) x y [] m₀ bse t') own { s with heap := h, toks := tk } { s with heap := h', toks := tk' } := by
  refine ⟨h', tk', m', q :: (bse ++ (tl ++ own)), bse ++ (tl ++ [q]), rfl, F', nsub N' hall, fun p hp => ?_, fun p hp => .tail _ (memR (memR hp)), fun p hp r hr => ?_, ⟨_, rfl, fun p hp b hb => ?_, ⟨v', hy, _, rfl, fun a ha p hp => ?_, hT⟩, fun z h1 h2 _ => hm z h1 h2⟩⟩
  · simp at hp ⊢; rcases hp with h | h | h <;> simp [h]
  · rw [← List.append_assoc] at hr
    rcases List.mem_append.mp hr with hr | hr
    · exact hoff p hp r hr
    · rw [List.mem_singleton.mp hr]
      exact Nat.ne_of_lt (hq p (memR (memR hp)))
  · rcases List.mem_append.mp hp with hp | hp
    · exact hto p hp b hb
    · rw [List.mem_singleton.mp hp]
      obtain ⟨r, hr, rfl⟩ := List.mem_map.mp hb
      exact Nat.ne_of_gt (hq r (memL hr))
  · rcases List.mem_append.mp hp with hp | hp
    · exact hord a ha p hp
    · rw [List.mem_singleton.mp hp]
      exact hq a (memL ha)
section
variable {prog : Program} {w : World} {A : Around} {E : Value → Shared → Prop} {s : Shared} {h₀ : Heap} {L : Addr} {m : Str → Option Value} {all : List (Addr × Obj)}
theorem upd_K {d o2 : Addr} {o oo : Obj} {k : Str} {v : Value} {Q : Value → Shared → Prop} (F : Fr h₀ L s.heap m) (N : News h₀ L s.heap all) (md : (d, o) ∈ all) (hd : o.IsDictOf (PySem.strKind prog w) []) (m2 : (o2, oo) ∈ all) (hd2 : oo.IsDictOf (PySem.strKind prog w) [(k, v)]) (lo : (o2 == sysModules) = false) (hne : d ≠ o2)
    (h : ∀ h' o', Fr h₀ L h' m → News h₀ L h' ((d, o') :: all.filter (fun p => !(p.1 == d))) → o'.IsDictOf (PySem.strKind prog w) [(k, v)] → Q .none { s with heap := h' }) :
    wpAny (model prog w) A (call (.builtin "dict.update") [.ref d, .ref o2]) Q E s := by
  have hm := N _ md
  have hD : s.heap.DictOf (PySem.strKind prog w) d [] := Heap.dictOf_iff.mpr ⟨o, hm.1, hd⟩
  have hD2 : s.heap.DictOf (PySem.strKind prog w) o2 [(k, v)] := Heap.dictOf_iff.mpr ⟨oo, (N _ m2).1, hd2⟩
  refine call_meetsIn PySem.F.slot_dict_update hD.typeIs PySem.F.entry_dict_update (PySem.F.args_dict_update_2 _ _) (meets_dict_update _ d o2 hne lo)
    ⟨[], [(k, v)], hD, hD2, (by show 1 ≤ sizeLine; rw [sizeLine_eq]; decide), fun h' hmm _ hs => ?_⟩
  obtain ⟨o', ho', hd'⟩ := Heap.dictOf_iff.mp hmm
  refine h h' o' (F.change hs hm.2.1 hm.2.2) (fun p hp => ?_) hd'
  rcases List.mem_cons.mp hp with rfl | hp
  · exact ⟨ho', hm.2⟩
  · obtain ⟨hp, hne⟩ := List.mem_filter.mp hp
    have hne : p.1 ≠ d := by simpa using hne
    exact ⟨(hs.2 _ hne).trans (N p hp).1, (N p hp).2⟩
end
set_option maxHeartbeats 1500000 in
noncomputable def cut208 : Cut (∀ (w : World) (p : Program) (loose : List Str) (mean : ExcName → Option Value) (mg mb : Str → Option Value) (d : Nat), TellsXd 303 PySem.Challenge.rw_xw0159_01.row.prog w (hd.heap_1 w.params) p loose mean mg mb 208 (worldT w) d) := by
  refine' ⟨_, fun kP w p loose mean mg mb d => ?use⟩
  case use =>
    unfold TellsXd
    k_fill
    intro un gd cn cs a ccd cl outer A₀ base h₀ L m ext news s vs Q E B F X N T hk hR hdp hun hret
    obtain ⟨hd3, ⟨pL, hpL, hpL1⟩, tk, rfl⟩ := hR
    dsimp only [worldT] at hdp hun hret
    refine wpAny_call ?_
    k_dflt ktr_enter
    obtain ⟨dp, _⟩ : ∃ n : Nat, True := ⟨0, trivial⟩
    rename_i g' L' h' FG' F' N' B' X' T' hdp0
    clear hdp0
    revert FG' F' N' B' X' T'
    revert hret
    revert hun
    revert hdp
    revert hpL1
    revert hpL
    revert hd3
    revert B F X N T hk
    revert d pL tk
    exact kP w p loose mean mg mb dp un gd cn cs a ccd cl outer A₀ base h₀ L m ext news s Q E g' L' h'
@[irreducible] noncomputable def x208 : Pt := pick pt0 fun x => x.at cut208.P
set_option maxHeartbeats 1500000 in
theorem world_tells_b : x208.at cut208.P := by
  intro d pL tk B F X N T hk hd3 hpL hpL1 hdp hun hret FG' F' N' B' X' T'
  have hc := cLine_is
  have hStop : StopIf := trivial
  k_steps
  refine Halt.mk ?_
  refine ifexp_use (if d = 0 then 0 else 50) ?_ ?_
  · (rename StopIf => hS9; clear hS9)
    rcases Nat.eq_zero_or_pos d with hd | hd
    · subst hd
      k_steps
    · have hd' : (0 : Int) < (d : Int) := by omega
      rw [if_neg (by omega)]
      k_steps
  intro tkN tkM
  (try k_fold)
  k_steps
  refine Halt.mk ?_
  rename_i x1 dx _ l9 l2 _ _ _ _ _ _ _ _ _ da _ oa loA hsA _ _ _ l8 _ _ _ _ _ _ _ _ _ _ _ _ _ _ _ _ _ _ _ _ _ _ _ _ _ _ _ _ _ _ _ _ _ _ _ _ _ _ _ _ _ _ _ _ _ _ _ _ _ _ _ _ _ _ _ _ _ _ _ _ _ _ _ D1 _ l1D _ _ _ _ _ _ _ _ _ _ _ _ _ rgX FR NR keepR
  obtain ⟨l8x, l8d, l8a⟩ := l8
  have hda1 : @LT.lt Nat _ da D1 := by first | walk_at "m:cj" | omega
  have hdx1 : (dx == sysModules) = false := beq_eq_false_iff_ne.mpr (Nat.ne_of_gt (Nat.lt_trans hpL1 (l9 _ hpL)))
  refine withL NR fun bse hbase NR' => ?_
  have hX : (x1, instObj 162 dx) ∈ bse := memEq hbase (by k_mem)
  refine seeW (dx := dx) (da := da) hbase (by k_mem) fun k1 u1 k2 k3 u2 k4 u3 k5 u4 k6 u5 k7 u6 k8 u7 n1 hDX => ?_
  have hAd : (da, oa) ∈ bse := memEq hbase (by k_mem)
  refine seeP (D := D1) (x := Str.ofString "param") (y := Str.ofString "T") hbase (by k_mem) fun kp kp' np hP => ?_
  have hsub : ∀ p ∈ x208.ext ++ x208.news, p ∈ bse := subEq hbase (by walk_at "m:in")
  clear hbase NR
  refine' tbr_tree1 (y := Str.ofString "inner") (δ := Ty) (Rel := WldRel (D1, tupO [.str (Str.ofString "param") kp, .str (Str.ofString "T") kp'] np) bse) (d₀ := .par (Str.ofString "T")) (n := if d = 0 then 0 else 50) [] (fun t _ => if d = 1 then .box t else if d = 2 then .arr 1 t else .rf (Str.ofString "'a") t) ?hh rgX ?hsm ?hn FR NR' ?hy ?hr0 ?turn ?done
  case hh => rfl
  case hsm => exact small0 d
  case hn => exact size0 d
  case hy => rfl
  case hr0 => exact ⟨[], (List.append_nil _).symm, (fun _ _ _ h => nomatch h), .par (.head _)⟩
  case turn =>
    intro k t v σ u tl h tkH own hk1 hk2 hoff hto hto2 hR F4 N4
    obtain ⟨tl0, htl, hord, hT⟩ := hR
    obtain rfl := List.append_cancel_left htl
    have h13 : d = 1 ∨ d = 2 ∨ d = 3 := by
      rcases Nat.eq_zero_or_pos d with h | h
      · subst h; simp at hk2; omega
      · omega
    have N4g : ∀ p ∈ bse ++ (tl ++ own), h.get? p.1 = some p.2 := fun p hp => (N4 p hp).1
    clear keepR FR NR' hX hDX hAd l8a loA hsA
    (try k_fold)
    k_steps
    refine Halt.mk ?_
    refine item3 (by k_asm) (by k_mem) h13 (fun v9 hv9 => ?_) (by with_unfolding_all rfl)
    k_steps
    rename_i hA hkA _ _ _ hB hkB _ hC _ _ lT _ _ _ _ hT2 FT NT
    rcases hv9 with ⟨rfl, rfl⟩ | ⟨rfl, rfl⟩ | ⟨rfl, rfl⟩
    · refine wturn (q := (h.objs.size, tupO [.str (Str.ofString "box") _, v] 0)) (fun p hp => Heap.lt_size (N4g p hp)) FT NT (by walk_at "m:in") hoff hto hord ?_ rfl (fun z h1 h2 => ?_)
      · exact .box (.tail _ (memR (.head _))) (hT.mono (by walk_at "m:in"))
      · simp [h1, h2]
    · refine wturn (q := (hA.objs.size, tupO [.str (Str.ofString "array") _, v, .int 1 _] 0)) (fun p hp => Heap.lt_size (hkA _ _ (N4g p hp))) FT NT (by walk_at "m:in") hoff hto hord ?_ rfl (fun z h1 h2 => ?_)
      · exact .arr (.tail _ (memR (.head _))) (hT.mono (by walk_at "m:in"))
      · simp [h1, h2]
    · refine wturn (q := (hB.objs.size, tupO [.str (Str.ofString "ref") _, .str (Str.ofString "'a") _, .bool false, v] 0)) (fun p hp => Heap.lt_size (hkB _ _ (hkA _ _ (N4g p hp)))) FT NT (by walk_at "m:in") hoff hto hord ?_ rfl (fun z h1 h2 => ?_)
      · exact .rf (.tail _ (memR (.head _))) (hT.mono (by walk_at "m:in"))
      · simp [h1, h2]
  case done =>
    intro u v tl h tk ht hR F4 N4
    obtain ⟨tl0, htl, hord, hT⟩ := hR
    obtain rfl := List.append_cancel_left htl
    (try k_fold)
    k_steps
    rename_i d2 _ _ lo2 _ l2a _ _ _ _ _ _ _ _ _ _ _ _ _ _ _ _ _ _ _ _ _ _ _ _ _ _ _ _ _ _ _ _ _ _ _ _ _ _ _ _ r1 dr _ _ _ _ _ _ _ _ _ _ _ _ _ _ _ _ _ _ _ _ _ _ _ _ _ _ o2 FU NU hd2
    refine Halt.mk ?_
    have hda2 : @LT.lt Nat _ da d2 := tb_ltOf l2a.2.2.2.2 (da, oa) (memL hAd)
    refine upd_K (d := da) (by k_asm) (by k_asm) (by k_mem) hsA (by k_mem) hd2 lo2 (Nat.ne_of_lt hda2) fun h' o' F' N' hd' => ?_
    (try k_fold)
    k_steps
    rename News _ _ _ _ => NE
    refine withL NU fun A hA NU' => ?_
    have NE2 : News x208.h₀ x208.L h' ((da, o') :: A.filter (fun p => !(p.1 == da))) := newsEq hA NE
    have hAb : ∀ p ∈ bse ++ tl, p ∈ A := subEq hA (by walk_at "m:in")
    obtain ⟨NF, oF⟩ := world_end NE2 (fun p hp => hAb p (memL (hsub p hp))) l9 l8d
    have hv : TyIn (x208.news ++ ((da, o') :: newer dx da A)) v (inn d) := by
      rw [foldl_inner] at hT
      refine hT.mono fun p hp => ?_
      rcases List.mem_cons.mp hp with rfl | hp
      · exact pickHi (hAb _ (memL hP)) hda1
      · exact pickHi (hAb _ (memR hp)) (hord _ hAd p hp)
    refine hret _ ((da, o') :: newer dx da A) _ _ (by k_asm) NF oF ?_
    refine' WorldIn.mk (da := da) (inner := inn d) (n9 := 0) (pickLo (hAb _ (memL hX)) (Nat.le_of_lt l2) l8x) hdx1 loA (pickLo (hAb _ (memL hDX)) (Nat.le_refl _) l8d) (memR (.head _)) hd' ?a7 ?a8 ?a9 ?a10 ?a11 ?a12 ?a13 ?a14 ?a15
    case a7 => exact pickHi (memEq hA (by k_mem)) (by first | walk_at "m:cj" | omega)
    case a8 => exact pickHi (memEq hA (by k_mem)) (by first | walk_at "m:cj" | omega)
    case a9 => exact pickHi (memEq hA (by k_mem)) (by first | walk_at "m:cj" | omega)
    case a10 => exact pickHi (memEq hA (by k_mem)) (by first | walk_at "m:cj" | omega)
    case a11 => exact pickHi (memEq hA (by k_mem)) (by first | walk_at "m:cj" | omega)
    case a12 => exact pickHi (memEq hA (by k_mem)) (by first | walk_at "m:cj" | omega)
    case a13 => exact pickHi (memEq hA (by k_mem)) (by first | walk_at "m:cj" | omega)
    case a14 => exact pickHi (memEq hA (by k_mem)) (by first | walk_at "m:cj" | omega)
    case a15 => exact .rf (pickHi (memEq hA (by k_mem)) (ltSz (by assumption) (by k_mem))) (.adtR (pickHi (memEq hA (by k_mem)) (ltSz (by assumption) (by k_mem))) (pickHi (memEq hA (by k_mem)) (ltSz (by assumption) (by k_mem))) (pickHi (memEq hA (by k_mem)) (ltSz (by assumption) (by k_mem))) hv)
theorem world_tells (w : World) (p : Program) (loose : List Str) (mean : ExcName → Option Value) (mg mb : Str → Option Value) (d : Nat) :
    TellsXd 303 PySem.Challenge.rw_xw0159_01.row.prog w (hd.heap_1 w.params) p loose mean mg mb 208 (worldT w) d := cut_is (C := cut208) (by delta x208; rfl) world_tells_b w p loose mean mg mb d
end Mine
end SP13
/-! L17 -/
section SL17
open PySem.Spec PySem.Calls
namespace Mine
/-! a set's table of eight slots with at most one element -/
theorem slot0 {t : SetTable} (hp : t.place = #[]) (hd : t.dummies = #[]) (j : Nat) : t.slot j = .empty := by
  simp [SetTable.slot, hp, hd, SetTable.below, SetTable.below.go, SetTable.has]
theorem below1 (j1 j : Nat) : SetTable.below #[j1] j = if j1 < j then 1 else 0 := by
  simp [SetTable.below, SetTable.below.go]
theorem slot1 {t : SetTable} {j1 : Nat} (hp : t.place = #[j1]) (hd : t.dummies = #[]) (j : Nat) : t.slot j = if j = j1 then .live 0 else .empty := by
  unfold SetTable.slot
  rw [hp, hd, below1]
  by_cases h : j1 < j
  · have hne : ¬ j = j1 := fun e => absurd h (e ▸ Nat.lt_irrefl _)
    rw [if_pos h, if_neg hne]
    simp [SetTable.has, SetTable.below, SetTable.below.go]
  · rw [if_neg h]
    by_cases e : j = j1
    · subst e; simp
    · rw [if_neg e]
      have : ¬ j1 = j := fun e' => e e'.symm
      simp [SetTable.has, SetTable.below, SetTable.below.go, this]
/-- where a probe may stand -/
structure PAt (j1 : Nat) (k : Nat) (p : SetTable.Probe) : Prop where
  more : p.more = 0
  i : p.i = p.j
  lt : p.j < 8
  dm : p.dummy = none
  k0 : k = 0 → p.j ≠ j1
  ks : ∀ k', k = k' + 1 → p.perturb < 32 ^ k'
theorem PAt.next {t : SetTable} {j1 k : Nat} {p : SetTable.Probe} (hm : t.mask = 7) (h : PAt j1 (k + 1) p) (e : p.j = j1) : PAt j1 k (t.advance p) := by
  have hr : ∀ i, SetTable.runEnd 7 i = i := fun i => by unfold SetTable.runEnd; rw [if_neg (by omega)]
  have e1 : t.advance p = { p with j := (p.i * 5 + 1 + p.perturb / 32) % 8, more := 0, i := (p.i * 5 + 1 + p.perturb / 32) % 8, perturb := p.perturb / 32 } := by
    unfold SetTable.advance
    rw [if_neg (by rw [h.more]; omega)]
    simp [SetTable.leap, hm, hr]
  rw [e1]
  have hi := h.i
  have hlt := h.lt
  refine ⟨rfl, rfl, Nat.mod_lt _ (by decide), h.dm, fun k0 => ?_, fun k' hk' => ?_⟩
  · subst k0
    have := h.ks 0 rfl
    dsimp only
    omega
  · subst hk'
    have := h.ks (k' + 1) rfl
    dsimp only
    rw [Nat.pow_succ] at this
    omega
theorem probe1 {t : SetTable} {j1 : Nat} {f : Nat → Int} {h : Int} (hm : t.mask = 7) (hp : t.place = #[j1]) (hd : t.dummies = #[]) : ∀ (fuel k : Nat) (p : SetTable.Probe), PAt j1 k p → k < fuel →
    (∃ j, j ≠ j1 ∧ j < 8 ∧ SetTable.probe.go t f h fuel p = some (.empty j none)) ∨ (f 0 = h ∧ ∃ k' next, k' < k ∧ PAt j1 k' next ∧ SetTable.probe.go t f h fuel p = some (.candidate j1 0 next)) := by
  intro fuel
  induction fuel with
  | zero => intro k p _ hk; omega
  | succ fuel ih =>
    intro k p P hk
    unfold SetTable.probe.go
    rw [slot1 hp hd]
    by_cases e : p.j = j1
    · rw [if_pos e]
      dsimp only
      cases k with
      | zero => exact absurd e (P.k0 rfl)
      | succ k =>
        have P' := P.next hm e
        by_cases ef : f 0 = h
        · refine .inr ⟨ef, k, _, Nat.lt_succ_self _, P', ?_⟩
          simp [ef, e]
        · have : (f 0 == h) = false := by simpa using ef
          rw [this]
          rcases ih k _ P' (by omega) with ⟨j, h1, h2, h3⟩ | ⟨h1, k', nx, h2, h3, h4⟩
          · exact .inl ⟨j, h1, h2, h3⟩
          · exact absurd h1 ef
    · rw [if_neg e]
      exact .inl ⟨p.j, e, P.lt, by rw [P.dm]⟩
theorem pstart {t : SetTable} (hm : t.mask = 7) (h : Int) (j1 : Nat) : PAt j1 14 (t.probeStart h) := by
  have hr : ∀ i, SetTable.runEnd 7 i = i := fun i => by unfold SetTable.runEnd; rw [if_neg (by omega)]
  have e : t.probeStart h = { j := SetTable.bits h % 8, more := 0, i := SetTable.bits h % 8, perturb := SetTable.bits h, dummy := none } := by
    simp [SetTable.probeStart, hm, hr]
  rw [e]
  refine ⟨rfl, rfl, Nat.mod_lt _ (by decide), rfl, fun h => by omega, fun k' hk' => ?_⟩
  obtain rfl : k' = 13 := by omega
  show SetTable.bits h < 32 ^ 13
  have h1 : SetTable.bits h < 2 ^ 64 := by
    unfold SetTable.bits
    have := Int.emod_lt_of_pos h (show (0 : Int) < 2 ^ 64 by decide)
    have := Int.emod_nonneg h (show (2 ^ 64 : Int) ≠ 0 by decide)
    omega
  exact Nat.lt_of_lt_of_le h1 (by decide)
theorem put0 {t : SetTable} (hp : t.place = #[]) (hd : t.dummies = #[]) (j : Nat) : t.put j = ({ t with place := #[j] }, 0) := by
  simp [SetTable.put, hp, hd, SetTable.below, SetTable.below.go, SetTable.has, SetTable.insertAt]
theorem put1 {t : SetTable} {j1 : Nat} (hp : t.place = #[j1]) (hd : t.dummies = #[]) (j : Nat) : t.put j = if j1 < j then ({ t with place := #[j1, j] }, 1) else ({ t with place := #[j, j1] }, 0) := by
  unfold SetTable.put
  rw [hp, hd, below1]
  by_cases h : j1 < j
  · simp only [if_pos h]
    simp [SetTable.has, SetTable.below, SetTable.below.go, SetTable.insertAt]
  · simp only [if_neg h]
    simp [SetTable.has, SetTable.below, SetTable.below.go, SetTable.insertAt]
end Mine
end SL17
/-! L18 -/
section SL18
open PySem.Spec PySem.Calls
namespace Mine
section
variable {prog : Program} {w : World} {A : Around} {E : Value → Shared → Prop} {s : Shared} {a xa ya : Addr} {o : Obj} {K : Type} [DecidableEq K] {knd : KeyKind prog w K}
theorem search0 {ep : Nat} {t : SetTable} {x : Value} {h : Int} {Q : SetFound → Shared → Prop} (fuel : Nat) (ho : s.heap.get? a = some o) (hd : o.data = .set #[] ep t) (hm : t.mask = 7) (hp : t.place = #[]) (hdm : t.dummies = #[])
    (hq : ∀ j, j < 8 → Q (.free j false) s) : wpAny (model prog w) A (setSearchFrom a x h true (fuel + 1) none) Q E s := by
  have hf : t.fits (#[] : Array (Int × Value)).size = true := by simp [SetTable.fits, hp, hdm, SetTable.fill]
  refine wpAny_bind (wpAny_setState_of ho hd hf ?_)
  dsimp only
  have hg : t.gaveWay = false := by simp [SetTable.gaveWay, hm]
  rw [hg]
  simp only [Bool.false_eq_true, if_false]
  have hpr : ∀ f, t.probe f h (t.probeStart h) = some (.empty (t.probeStart h).j none) := by
    intro f
    unfold SetTable.probe
    have : 10 * SetTable.turns t.mask = 219 + 1 := by rw [hm]; rfl
    rw [this]
    unfold SetTable.probe.go
    rw [slot0 hp hdm]
    rfl
  simp only [Option.getD_none]
  rw [hpr]
  exact wpAny_pure (hq _ (by show SetTable.bits h % (t.mask + 1) < 8; rw [hm]; exact Nat.mod_lt _ (by decide)))
theorem stmtOf_byValue (n : Nat) {v : Value} (h : carriedByValue v = true) : ofAClassStatement n v = pure false := by
  cases v with
  | ref a => simp [carriedByValue] at h
  | _ => first | rfl | simp [ofAClassStatement] | (unfold ofAClassStatement; rfl)
theorem stmtOf_tuple {ks : List K} {n : Nat} {Q : Bool → Shared → Prop} (hx : IsTupleKey knd s.heap ks xa) (h : Q false s) : wpAny (model prog w) A (ofAClassStatement (n + 1) (.ref xa)) Q E s := by
  have hT := hx.typeIs
  obtain ⟨o, items, k, ho, hc, hd, hi⟩ := hx
  unfold ofAClassStatement
  refine wpAny_bind (wpAny_typeOf hT ?_)
  dsimp only
  simp only [beq_self_eq_true, if_true]
  refine wpAny_bind (wpAny_pure ?_)
  simp only [Bool.not_true, Bool.false_eq_true, if_false]
  refine wpAny_bind (wpAny_seqItems ho hd ?_)
  dsimp only
  refine wpAny_bind ?_
  rw [← Array.forIn_toList]
  refine wpAny_forIn_list _ (fun rest r s' => r.1 = none ∧ s' = s ∧ ∀ v ∈ rest, carriedByValue v = true) _ ?_ ?_ _ _ ⟨rfl, rfl, hi.byValue⟩
  · rintro v rest r s' ⟨hr, rfl, hall⟩
    rw [stmtOf_byValue _ (hall v List.mem_cons_self)]
    refine wpAny_bind (wpAny_pure ?_)
    simp only [Bool.false_eq_true, if_false]
    exact wpAny_pure ⟨rfl, rfl, fun u hu' => hall u (List.mem_cons_of_mem _ hu')⟩
  · rintro ⟨r1, r2⟩ s' ⟨hr, rfl, _⟩
    simp only at hr
    subst hr
    exact wpAny_pure h
theorem unseen1 {ks1 ks2 : List K} {Q : Bool → Shared → Prop} (hy : IsTupleKey knd s.heap ks1 ya) (hx : IsTupleKey knd s.heap ks2 xa) (hq : Q false s) : wpAny (model prog w) A (searchCouldBeSeen (.ref xa) [.ref ya]) Q E s := by
  unfold searchCouldBeSeen
  refine wpAny_bind ?_
  refine wpAny_forIn_list _ (fun rest r s' => r.1 = none ∧ s' = s ∧ ∀ v ∈ rest, v = .ref ya) _ ?_ ?_ _ _ ⟨rfl, rfl, by simp⟩
  · rintro v rest r s' ⟨hr, rfl, hall⟩
    obtain rfl := hall v List.mem_cons_self
    dsimp only
    split
    · exact wpAny_pure ⟨rfl, rfl, fun u hu' => hall u (List.mem_cons_of_mem _ hu')⟩
    · refine wpAny_bind (wpAny_eqIsQuiet_tuple hx ?_)
      simp only [Bool.not_true, Bool.false_eq_true, if_false]
      refine wpAny_bind (wpAny_eqIsQuiet_tuple hy ?_)
      simp only [Bool.not_true, Bool.false_eq_true, if_false]
      refine wpAny_bind (stmtOf_tuple hx ?_)
      simp only [Bool.false_eq_true, if_false]
      refine wpAny_bind (stmtOf_tuple hy ?_)
      simp only [Bool.false_eq_true, if_false]
      exact wpAny_pure ⟨rfl, rfl, fun u hu' => hall u (List.mem_cons_of_mem _ hu')⟩
  · rintro ⟨r1, r2⟩ s' ⟨hr, rfl, _⟩
    simp only at hr
    subst hr
    exact wpAny_pure hq
theorem same_self {M : Model} {Q : Bool → Shared → Prop} (h : Q true s) : wpAny M A (isSame (.ref ya) (.ref ya)) Q E s := by
  refine wpAny_of_eq (a := true) ?_ h
  unfold isSame
  simp
theorem search1 {ep : Nat} {t : SetTable} {j1 : Nat} {h1 : Int} {ks1 ks2 : List K} {h : Int} {Q : SetFound → Shared → Prop} (hu : A.units < cLine) (ho : s.heap.get? a = some o) (hd : o.data = .set #[(h1, .ref ya)] ep t) (hm : t.mask = 7) (hp : t.place = #[j1]) (hdm : t.dummies = #[])
    (hy : IsTupleKey knd s.heap ks1 ya) (hx : IsTupleKey knd s.heap ks2 xa) (hne : ks1 ≠ ks2)
    (hq : ∀ j, j ≠ j1 → j < 8 → Q (.free j false) s) : ∀ (k fuel : Nat) (stand : Option SetTable.Probe), PAt j1 k (stand.getD (t.probeStart h)) → k < 200 → k < fuel →
      wpAny (model prog w) A (setSearchFrom a (.ref xa) h true fuel stand) Q E s := by
  have hf : t.fits (#[(h1, Value.ref ya)] : Array (Int × Value)).size = true := by simp [SetTable.fits, hp, hdm, SetTable.fill, hm]
  have hg : t.gaveWay = false := by simp [SetTable.gaveWay, hm]
  intro k
  induction k using Nat.strongRecOn with
  | _ k ih =>
    intro fuel stand P hk hfuel
    obtain ⟨fuel, rfl⟩ : ∃ n, fuel = n + 1 := ⟨fuel - 1, by omega⟩
    refine wpAny_bind (wpAny_setState_of ho hd hf ?_)
    dsimp only
    rw [hg]
    simp only [Bool.false_eq_true, if_false]
    have ht : 10 * SetTable.turns t.mask = 220 := by rw [hm]; rfl
    generalize hpg : t.probe _ h (stand.getD (t.probeStart h)) = pr
    unfold SetTable.probe at hpg
    rw [ht] at hpg
    rcases probe1 (f := _) (h := h) hm hp hdm 220 k _ P (by omega) with ⟨j, g1, g2, g3⟩ | ⟨g1, k', nx, g2, g3, g4⟩
    · rw [hpg] at g3
      subst g3
      exact wpAny_pure (hq j g1 g2)
    · rw [hpg] at g4
      subst g4
      dsimp only
      have g1' : h1 = h := g1
      subst g1'
      have hsm : t.sameMemory t.moves t.mask = some true := by simp [SetTable.sameMemory]
      have hsl : t.slot j1 = .live 0 := by rw [slot1 hp hdm, if_pos rfl]
      have hsame : (Value.ref ya == Value.ref ya) = true := beq_self_eq_true _
      cases hl : t.led
      · simp only [Bool.not_false, if_true]
        refine wpAny_bind ?_
        have hfl : List.map (fun x : Int × Value => x.snd) (Array.filter (fun x => x.fst == h1) #[(h1, Value.ref ya)]).toList = [Value.ref ya] := by simp
        rw [hfl]
        refine unseen1 hy hx ?_
        simp only [Bool.false_eq_true, if_false]
        refine wpAny_bind (wpAny_holding (wpAny_eqBool_tuple hu hy hx ?_))
        rw [decide_eq_false hne]
        refine wpAny_bind (wpAny_setState_of ho hd hf ?_)
        simp only [Bool.and_false, Bool.false_eq_true, if_false, hsm, if_true, hsl]
        refine wpAny_bind (same_self ?_)
        simp only [if_true]
        exact wpAny_bind (wpAny_pure (ih k' g2 fuel (some nx) g3 (by omega) (by omega)))
      · simp only [Bool.not_true, Bool.false_eq_true, if_false]
        refine wpAny_bind (wpAny_holding (wpAny_eqBool_tuple hu hy hx ?_))
        rw [decide_eq_false hne]
        refine wpAny_bind (wpAny_setState_of ho hd hf ?_)
        simp only [Bool.and_false, Bool.false_eq_true, if_false, hsm, if_true, hsl]
        refine wpAny_bind (same_self ?_)
        simp only [if_true]
        exact wpAny_bind (wpAny_pure (ih k' g2 fuel (some nx) g3 (by omega) (by omega)))
end
end Mine
end SL18
/-! L19 -/
section SL19
open PySem.Spec PySem.Calls
namespace Mine
section
variable {prog : Program} {w : World} {A : Around} {E : Value → Shared → Prop} {s : Shared} {a xa ya : Addr} {o : Obj} {K : Type} [DecidableEq K] {knd : KeyKind prog w K}
theorem byValue_tuple {ks : List K} {n : Nat} {Q : Bool → Shared → Prop} (hh : ∀ k v, knd.is k v = true → hashByValue n v = pure false) (hk : ks ≠ []) (hx : IsTupleKey knd s.heap ks xa) (h : Q false s) : wpAny (model prog w) A (hashByValue (n + 1) (.ref xa)) Q E s := by
  have hT := hx.typeIs
  obtain ⟨o, items, k, ho, hc, hd, hi⟩ := hx
  unfold hashByValue
  refine wpAny_bind (wpAny_specialOf hT F.slot_tuple_hash.lookup ?_)
  dsimp only
  refine wpAny_bind (wpAny_seqItems ho hd ?_)
  simp only [Option.getD_some]
  obtain ⟨xs⟩ := items
  cases hi with
  | nil => exact absurd rfl hk
  | @cons k1 v ks' vs h1 h2 =>
    rw [← Array.forIn_toList]
    simp only [List.forIn_cons]
    rw [hh k1 v h1]
    exact wpAny_bind (wpAny_bind (wpAny_pure (wpAny_pure (wpAny_pure h))))
theorem byScan_ref {es : Array (Int × Value)} : byScan (.ref xa) es = false := by
  simp [byScan, Value.scannable]
theorem big : (100000 : Nat) = 99999 + 1 := rfl
theorem add0 {ep : Nat} {t : SetTable} {ks : List K} {Q : Bool → Shared → Prop} (hu : A.units < cLine) (hh : ∀ k v n, knd.is k v = true → hashByValue n v = pure false) (hk : ks ≠ []) (ho : s.heap.get? a = some o) (hd : o.data = .set #[] ep t) (hm : t.mask = 7) (hp : t.place = #[]) (hdm : t.dummies = #[]) (hpl : t.plain = true)
    (hx : IsTupleKey knd s.heap ks xa)
    (hq : ∀ j, j < 8 → Q true { s with heap := s.heap.update a (Obj.putSet #[(tupleKeyHash knd ks, .ref xa)] { t with place := #[j], plain := false }), toks := s.toks + (ks.length + 1) }) : wpAny (model prog w) A (setAdd a (.ref xa)) Q E s := by
  have hf : t.fits (#[] : Array (Int × Value)).size = true := by simp [SetTable.fits, hp, hdm, SetTable.fill]
  unfold setAdd
  refine wpAny_holding (wpAny_bind (wpAny_pyHash_tuple hu hx ?_))
  unfold setAddHashed
  refine wpAny_holding ?_
  rw [big]
  unfold setAddHashedIn
  refine wpAny_bind (wpAny_setState_of ho hd hf ?_)
  dsimp only
  rw [byScan_ref]
  simp only [Bool.false_eq_true, if_false]
  unfold setSearch
  rw [big]
  refine wpAny_bind (search0 _ ho hd hm hp hdm fun j hj => ?_)
  dsimp only
  refine wpAny_bind (wpAny_setState_of ho hd hf ?_)
  dsimp only
  rw [put0 hp hdm]
  dsimp only
  rw [hpl]
  simp only [if_true]
  refine wpAny_bind (byValue_tuple (fun k v => hh k v _) hk hx ?_)
  simp only [Bool.false_eq_true, if_false]
  have hins : SetTable.insertAt (#[] : Array (Int × Value)) 0 (tupleKeyHash knd ks, Value.ref xa) = #[(tupleKeyHash knd ks, Value.ref xa)] := by simp [SetTable.insertAt]
  rw [hins]
  refine wpAny_bind (wpAny_storeSet_of ho hd ?_ (by show 1 ≤ sizeLine; decide))
  have htf : SetTable.tooFull { t with place := #[j], plain := false } = false := by simp [SetTable.tooFull, SetTable.fill, hdm, hm]
  rw [htf]
  simp only [Bool.not_false, Bool.and_false, Bool.false_eq_true, if_false]
  exact wpAny_pure (hq j hj)
theorem add1 {ep j1 : Nat} {t : SetTable} {ks1 ks2 : List K} {h1 : Int} {Q : Bool → Shared → Prop} (hu : A.units < cLine) (ho : s.heap.get? a = some o) (hd : o.data = .set #[(h1, .ref ya)] ep t) (hm : t.mask = 7) (hp : t.place = #[j1]) (hdm : t.dummies = #[]) (hpl : t.plain = false)
    (hy : IsTupleKey knd s.heap ks1 ya) (hx : IsTupleKey knd s.heap ks2 xa) (hne : ks1 ≠ ks2)
    (hq : ∀ (es : Array (Int × Value)) (t' : SetTable), es = #[(h1, .ref ya), (tupleKeyHash knd ks2, .ref xa)] ∨ es = #[(tupleKeyHash knd ks2, .ref xa), (h1, .ref ya)] → t'.fits 2 = true → t'.plain = false → t'.led = t.led →
      Q true { s with heap := s.heap.update a (Obj.putSet es t'), toks := s.toks + (ks2.length + 1) }) : wpAny (model prog w) A (setAdd a (.ref xa)) Q E s := by
  have hf : t.fits (#[(h1, Value.ref ya)] : Array (Int × Value)).size = true := by simp [SetTable.fits, hp, hdm, SetTable.fill, hm]
  unfold setAdd
  refine wpAny_holding (wpAny_bind (wpAny_pyHash_tuple hu hx ?_))
  unfold setAddHashed
  refine wpAny_holding ?_
  rw [big]
  unfold setAddHashedIn
  refine wpAny_bind (wpAny_setState_of ho hd hf ?_)
  dsimp only
  rw [byScan_ref]
  simp only [Bool.false_eq_true, if_false]
  unfold setSearch
  rw [big]
  refine wpAny_bind (search1 (s := { s with toks := s.toks + (ks2.length + 1) }) hu ho hd hm hp hdm hy hx hne (fun j hj hj8 => ?_) 14 (99999 + 1) none (pstart hm _ j1) (by decide) (by decide))
  dsimp only
  refine wpAny_bind (wpAny_setState_of ho hd hf ?_)
  dsimp only
  rw [put1 hp hdm]
  by_cases hlt : j1 < j
  · rw [if_pos hlt]
    dsimp only
    rw [hpl]
    simp only [Bool.false_eq_true, if_false, if_true]
    refine wpAny_bind (wpAny_pure ?_)
    simp only [if_true]
    have hins : SetTable.insertAt (#[(h1, Value.ref ya)] : Array (Int × Value)) 1 (tupleKeyHash knd ks2, Value.ref xa) = #[(h1, Value.ref ya), (tupleKeyHash knd ks2, Value.ref xa)] := by simp [SetTable.insertAt]
    rw [hins]
    refine wpAny_bind (wpAny_storeSet_of ho hd ?_ (by show 2 ≤ sizeLine; decide))
    have htf : SetTable.tooFull { t with place := #[j1, j], plain := false } = false := by simp [SetTable.tooFull, SetTable.fill, hdm, hm]
    rw [htf]
    simp only [Bool.not_false, Bool.and_false, Bool.false_eq_true, if_false]
    exact wpAny_pure (hq _ _ (.inl rfl) (by simp [SetTable.fits, SetTable.fill, hdm, hm]) rfl rfl)
  · rw [if_neg hlt]
    dsimp only
    rw [hpl]
    simp only [Bool.false_eq_true, if_false]
    refine wpAny_bind (wpAny_pure ?_)
    simp only [if_true]
    have hins : SetTable.insertAt (#[(h1, Value.ref ya)] : Array (Int × Value)) 0 (tupleKeyHash knd ks2, Value.ref xa) = #[(tupleKeyHash knd ks2, Value.ref xa), (h1, Value.ref ya)] := by simp [SetTable.insertAt]
    rw [hins]
    refine wpAny_bind (wpAny_storeSet_of ho hd ?_ (by show 2 ≤ sizeLine; decide))
    have htf : SetTable.tooFull { t with place := #[j, j1], plain := false } = false := by simp [SetTable.tooFull, SetTable.fill, hdm, hm]
    rw [htf]
    simp only [Bool.not_false, Bool.and_false, Bool.false_eq_true, if_false]
    exact wpAny_pure (hq _ _ (.inr rfl) (by simp [SetTable.fits, SetTable.fill, hdm, hm]) rfl rfl)
end
end Mine
end SL19
/-! L20 -/
section SL20
open PySem.Spec PySem.Calls
namespace Mine
section
variable {prog : Program} {w : World} {A : Around} {R : Result → Shared → Prop} {I : Addr} {fp wr : List Addr} {G : Array GenState → Array GenState → Prop} {n : Nat} {P : Nat → Value → Prop} {St : Nat → Shared → Prop}
/-- a set's update, told by what the set is after each item -/
theorem loopG (W : WalksS prog w A.in1 I fp wr G n P St) (S : Addr) (hSf : S ∉ fp) (SS : Nat → Heap → Prop)
    (hkeep : ∀ i h h', SS i h → (∀ b o, b ∉ wr → h.get? b = some o → h'.get? b = some o) → SS i h')
    (step : ∀ i v (s : Shared) (Q : Bool → Shared → Prop) (E : Value → Shared → Prop), i < n → P i v → SS i s.heap → (∀ b h' tk, Heap.SameBut S s.heap h' → SS (i + 1) h' → s.toks ≤ tk → Q b { s with heap := h', toks := tk }) → wpAny (model prog w) A.in1 (setAdd S v) Q E s) :
    ∀ (k i : Nat) (s : Shared), n - i = k → i ≤ n → St i s → SS i s.heap →
      (∀ s', Moved (S :: wr) G s s' → SS n s'.heap → R (.ok (.ret .none)) s') →
      codeAny (model prog w) A (.builtin "set.update.loop" ⟨[.ref S, .ref I], []⟩) R s := by
  have hSw : S ∉ wr := fun h => hSf (W.sub _ h)
  have hsub : ∀ b ∈ wr, b ∈ S :: wr := fun b hb => List.mem_cons_of_mem _ hb
  intro k
  induction k with
  | zero =>
    intro i s hk hi hst hS hR
    have hin : i = n := by omega
    subst hin
    refine codeAny_builtin F.entry_set_update_loop ?_
    rw [Around.under_plainId F.plain_set_update_loop _]
    show wpAny _ A.in1 (pyNext (.ref I) >>= _) _ _ s
    refine wpAny_bind (W.done s _ _ hst fun s' hm => ?_)
    show wpAny _ A.in1 (ret Value.none) _ _ s'
    exact wpAny_pure (hR s' (hm.mono hsub) (hkeep _ _ _ hS fun b o hb e => hm.heap b o hb e))
  | succ k ih =>
    intro i s hk hi hst hS hR
    have hlt : i < n := by omega
    refine codeAny_builtin F.entry_set_update_loop ?_
    rw [Around.under_plainId F.plain_set_update_loop _]
    show wpAny _ A.in1 (pyNext (.ref I) >>= _) _ _ s
    refine wpAny_bind (W.item i s _ _ hlt hst fun v s' hP hst' hm => ?_)
    have hS' : SS i s'.heap := hkeep _ _ _ hS fun b o hb e => hm.heap b o hb e
    show wpAny _ A.in1 (holding [v] (setAdd S v) >>= _) _ _ s'
    refine wpAny_bind (wpAny_holding ?_)
    refine step i v s' _ _ hlt hP hS' fun b h' tk hsb hS2 htk => ?_
    refine wpAny_pure ⟨plainId_quiet F.plain_set_update_loop _, ih (i + 1) _ (by omega) hlt (W.frame _ s' _ _ hst' htk fun b hb o e => ?_) hS2 fun s'' hm'' hS'' => ?_⟩
    · rw [hsb.2 b (fun h : b = S => hSf (by rw [← h]; exact hb))]; exact e
    · refine hR s'' (Moved.trans W.gtrans ((hm.mono hsub).then_heap htk fun b o hb e => ?_) hm'') hS''
      rw [hsb.2 b (fun h : b = S => hb (by rw [h]; exact List.mem_cons_self))]; exact e
end
end Mine
end SL20
/-! L21 -/
section SL21
open PySem.Spec PySem.Calls
namespace Mine
section
variable {prog : Program} {w : World} {A : Around} {E : Value → Shared → Prop} {s : Shared}
noncomputable def ledOf (w : World) : Bool := !w.params.followText "set-order"
noncomputable def setObj0 (w : World) : Obj := { cls := .type "set", dict := none, data := .set #[] 0 (.fresh 0 0 (ledOf w)) }
theorem code_set_newG (a : Value) {Q₁ : Value → Shared → Prop}
    (h : Q₁ (.ref s.heap.objs.size) { s with heap := s.heap.push (setObj0 w) }) :
    codeAny (model prog w) A (.call (.builtin "set.__new__") ⟨[.type "set", a], []⟩) (wants Q₁ E) s := by
  refine codeAny_of_tree ?_
  show wpAny _ A.in1 (do checkBuiltinCall "set.__new__" ⟨[.type "set", a], []⟩; again (.builtin "set.__new__" ⟨[.type "set", a], []⟩)) _ _ s
  refine wpAny_bind (wpAny_of_eq (F.newCall_set_1 a) (wpAny_pure ⟨plainId_quiet F.plain_set_new _, codeAny_builtin F.entry_set_new ?_⟩))
  rw [Around.under_plainId F.plain_set_new _]
  unfold Builtin.«set.__new__» Builtin.Frozenset.newClass
  have hsub := sub_set_self
  obtain ⟨hp, g, d, tk, os⟩ := s
  dsimp only
  wp_walk
  refine wpAny_askSetting (wpAny_pure ?_)
  dsimp only
  simp only [newObj]
  refine wpAny_bind (wpAny_alloc (wpAny_pure ?_))
  exact wpAny_pure h
set_option maxHeartbeats 3200000 in
theorem call_setG {l : Addr} {items : Array Value} {SS : Nat → Heap → Prop} {Q : Value → Shared → Prop}
    (hh : A.handled = none) (hl : s.heap.IsList l items)
    (hkeep : ∀ i h h', SS i h → (∀ b o, b ≠ s.heap.objs.size + 1 → h.get? b = some o → h'.get? b = some o) → SS i h')
    (step : ∀ (B : Around) i v (s' : Shared) (Q : Bool → Shared → Prop) (E : Value → Shared → Prop), B.units ≤ A.units + 16 → items[i]? = some v → SS i s'.heap → (∀ b h' tk, Heap.SameBut s.heap.objs.size s'.heap h' → SS (i + 1) h' → s'.toks ≤ tk → Q b { s' with heap := h', toks := tk }) → wpAny (model prog w) B (setAdd s.heap.objs.size v) Q E s')
    (h0 : ∀ oi, SS 0 ((s.heap.push (setObj0 w)).push oi))
    (h : ∀ (h' : Heap) (tk : Nat), SS items.size h' →
      (∀ b o, b < s.heap.objs.size → s.heap.get? b = some o → h'.get? b = some o) → Q (.ref s.heap.objs.size) { s with heap := h', toks := tk }) :
    wpAny (model prog w) A (call (.type "set") [.ref l]) Q E s := by
  obtain ⟨c, tl, hmro⟩ := F.called_set.mro
  have hmade := F.called_set.made
  have hsub := F.called_set.sub
  refine wpAny_call (codeAny_of_tree ?_)
  show wpAny _ _ (callAny (.type "set") _) _ _ _
  refine wpAny_pure ⟨Code.quiet_builtin _ (by decide +kernel), codeAny_builtin F.entry_type_call ?_⟩
  rw [Around.under_plain (weight_type_call_type "set" [.ref l] []) rfl]
  have h1 := F.called_set.notType
  have h2 := F.called_set.canCreate
  have hct := F.typeCall_set_1 (.ref l)
  repeat (any_goals (first | assumption | wp_step))

  refine codeAny_mono (code_set_newG (w := w) (.ref l) (E := E) (Q₁ := fun obj s₁ => obj = .ref s.heap.objs.size ∧ s₁ = { s with heap := s.heap.push (setObj0 w) }) ⟨rfl, rfl⟩) fun r s₁ hr => ?_
  cases r with
  | error e => exact hr
  | ok fl =>
    cases fl with
    | ret obj =>
      obtain ⟨rfl, rfl⟩ := hr
      have hS : (s.heap.push (setObj0 w)).get? s.heap.objs.size = some (setObj0 w) := Heap.get?_push_size _ rfl
      have hT : Shared.TypeIs { s with heap := s.heap.push (setObj0 w) } (.ref s.heap.objs.size) "set" := ⟨_, hS, rfl⟩
      have hli := F.called_set.init.lookup
      have hbi := F.called_set.init.bind (.ref s.heap.objs.size)
      repeat (any_goals (first | assumption | wp_step))

      refine codeAny_mono (codeAny_call_builtin (R := wants (fun r s₂ => r = .none ∧ ∃ h' tk, s₂ = { s with heap := h', toks := tk } ∧
          SS items.size h' ∧
          (∀ b o, b < s.heap.objs.size → s.heap.get? b = some o → h'.get? b = some o)) E) F.called_set.init.plain F.entry_set_init (check_set_init_1 hT ?_)) fun r₂ s₂ hr₂ => ?_
      · obtain ⟨ol, hol, hcl, nl, hdl⟩ := hl
        obtain ⟨ocls, odict, odata, oslots⟩ := ol
        simp only at hcl hdl
        subst hcl; subst hdl
        have hol' : (s.heap.push (setObj0 w)).get? l = some { cls := .type "list", dict := odict, data := .seq items nl, slots := oslots } := Heap.get?_push_of_some _ hol
        have hsls := F.sub_list_set
        have hslf := F.sub_list_frozenset
        have hne : (Value.type "list" == Value.type "dict") = false := by decide
        have hl1 : (s.heap.push (setObj0 w)).IsList l items := ⟨_, hol', rfl, nl, rfl⟩
        unfold Builtin.«set.__init__» noKeywords Builtin.Frozenset.updateFrom
        generalize hPI : pyIter = PI
        wp_walk
        subst hPI

        refine wpAny_pyIter_list hl1 ?_
        refine wpAny_bind (wpAny_runValue ?_)
        have hlS : l < s.heap.objs.size := Heap.lt_size hol
        have hh3 : A.in1.in1.in1.handled = none := by simp [hh]
        have hneI : l ≠ (s.heap.push (setObj0 w)).objs.size := by
          rw [Heap.size_push]; exact Nat.ne_of_lt (Nat.lt_succ_of_lt hlS)
        have hSf : s.heap.objs.size ∉ [(s.heap.push (setObj0 w)).objs.size, l] := by
          rw [Heap.size_push]; simp only [List.mem_cons, List.mem_singleton, List.not_mem_nil, or_false, not_or]
          exact ⟨Nat.ne_of_lt (Nat.lt_succ_self _), Nat.ne_of_gt hlS⟩
        refine loopG ((Walks.list hh3 _ l hneI items).toS) s.heap.objs.size
          hSf SS (fun i h1 h2 a b => hkeep i h1 h2 a fun c o hc => b c o (by rw [Heap.size_push]; simpa using hc)) (fun i v s' Q' E' _ hP hs hq => step _ i v s' Q' E' ?hun hP hs hq) (items.size - 0) 0 _ (by omega) (Nat.zero_le _)
          ⟨⟨_, Heap.get?_push_size _ rfl, rfl, rfl⟩, (hl1.push _)⟩ (h0 _) ?hR
        case hun => (simp only [units_in1]; omega)
        case hR =>
          intro s' hm hS'
          obtain ⟨h', g', d', tk', os'⟩ := s'
          have eg : g' = s.gens := hm.gens
          have ed : d' = s.drawn := hm.drawn
          have eo : os' = s.os := hm.os
          subst eg; subst ed; subst eo
          show wpAny _ _ _ _ _ _
          refine wpAny_pure ?_
          show wpAny _ _ (ret Value.none) _ _ _
          refine wpAny_pure ⟨rfl, h', tk', rfl, hS', fun b o hb e => ?_⟩
          have hb1 : b ≠ s.heap.objs.size := Nat.ne_of_lt hb
          have hb2 : b ≠ (s.heap.push (setObj0 w)).objs.size := by
            rw [Heap.size_push]; exact Nat.ne_of_lt (Nat.lt_succ_of_lt hb)
          exact hm.heap b o (by simp only [List.mem_cons, List.mem_singleton, List.not_mem_nil, or_false, not_or]; exact ⟨hb1, hb2⟩) (Heap.get?_push_of_some _ (Heap.get?_push_of_some _ e))

      · cases r₂ with
        | error e => exact hr₂
        | ok fl₂ =>
          cases fl₂ with
          | ret r =>
            obtain ⟨rfl, h', tk, rfl, hS', hk'⟩ := hr₂
            repeat (any_goals (first | assumption | wp_step))
            exact h _ _ hS' hk'
          | _ => exact hr₂.elim
    | _ => exact hr.elim
end
end Mine
end SL21
/-! L22 -/
section SL22
open PySem.Spec PySem.Calls
namespace Mine
section
variable {prog : Program} {w : World} {A : Around} {E : Value → Shared → Prop} {s : Shared} {h₀ : Heap} {L l : Addr} {m : Str → Option Value} {all : List (Addr × Obj)}
/-- a set's object: its items, and how it stands to its order -/
structure SetIs (w : World) (o : Obj) (vs : List Value) : Prop where
  cls : o.cls = .type "set"
  dict : o.dict = none
  slots : o.slots = #[]
  data : ∃ es ep t, o.data = .set es ep t ∧ es.toList.map (·.2) = vs ∧ t.fits es.size = true ∧ t.led = ledOf w ∧ (2 ≤ vs.length → t.plain = false)
theorem hashStr (k : Str) (v : Value) (n : Nat) (h : (PySem.strKind prog w).is k v = true) : hashByValue n v = pure false := by
  cases v <;> first | (exact absurd h Bool.false_ne_true) | (cases n <;> rfl)
theorem pairKey {h : Heap} {a : Addr} {x r : Str} {k k' : Tok} {n : Nat} (e : h.get? a = some (tupO [.str x k, .str r k'] n)) : IsTupleKey (PySem.strKind prog w) h [x, r] a :=
  ⟨_, _, _, e, rfl, rfl, .cons (strKind_is _ _ _ _) (.cons (strKind_is _ _ _ _) .nil)⟩
theorem putSet_is {o : Obj} {es : Array (Int × Value)} {ep : Nat} {t : SetTable} {vs : List Value} {es' : Array (Int × Value)} {t' : SetTable} (Y : SetIs w o vs) (hd : o.data = .set es ep t) {vs' : List Value} (e1 : es'.toList.map (·.2) = vs') (e2 : t'.fits es'.size = true) (e3 : t'.led = ledOf w) (e4 : 2 ≤ vs'.length → t'.plain = false) :
    SetIs w (Obj.putSet es' t' o) vs' := by
  rw [putSet_of es' t' hd]
  exact ⟨Y.cls, Y.dict, Y.slots, es', ep + 1, t', rfl, e1, e2, e3, e4⟩
noncomputable def Kept (s : Shared) (h : Heap) : Prop := ∀ b o, b < s.heap.objs.size → s.heap.get? b = some o → h.get? b = some o
/-- a set of one pair, out of a list of one -/
theorem set_one {a1 : Addr} {x1 r1 : Str} {k1 k1' : Tok} {n n1 : Nat} {Q : Value → Shared → Prop} (F : Fr h₀ L s.heap m) (N : News h₀ L s.heap all) (hl : (l, listOf #[.ref a1] n) ∈ all) (h1 : (a1, tupO [.str x1 k1, .str r1 k1'] n1) ∈ all) (hh : A.handled = none) (hu : A.units + 20 < cLine)
    (h : ∀ S o h' tk, Fr h₀ L h' m → News h₀ L h' ((S, o) :: all) → SetIs w o [.ref a1] → (∀ p ∈ all, p.1 < S) → Q (.ref S) { s with heap := h', toks := tk }) : wpAny (model prog w) A (call (.type "set") [.ref l]) Q E s := by
  have zl := (N _ hl).1
  have z1 := (N _ h1).1
  have hlt1 := Heap.lt_size z1
  refine call_setG (w := w) (items := #[.ref a1]) (SS := fun i h' => Kept s h' ∧ match i with
    | 0 => h'.get? s.heap.objs.size = some (setObj0 w)
    | _ => ∃ o, h'.get? s.heap.objs.size = some o ∧ SetIs w o [.ref a1]) hh ⟨_, zl, rfl, n, rfl⟩ ?_ ?_ ?_ ?_
  · rintro i g g' ⟨hk, hs⟩ hg
    refine ⟨fun b o hb e => hg b o (Nat.ne_of_lt (Nat.lt_succ_of_lt hb)) (hk b o hb e), ?_⟩
    have hne : s.heap.objs.size ≠ s.heap.objs.size + 1 := Nat.ne_of_lt (Nat.lt_succ_self _)
    cases i with
    | zero => exact hg _ _ hne hs
    | succ i => obtain ⟨o, ho, Y⟩ := hs; exact ⟨o, hg _ _ hne ho, Y⟩
  · rintro B i v s' Q' E' hB hv ⟨hk, hs⟩ hq
    cases i with
    | succ i => simp at hv
    | zero =>
      simp at hv
      subst hv
      refine add0 (knd := PySem.strKind prog w) (ks := [x1, r1]) (by omega) (fun k v n => hashStr k v n) (by simp) hs rfl rfl rfl rfl rfl (pairKey (hk _ _ hlt1 z1)) fun j hj => ?_
      refine hq _ _ _ (Heap.SameBut.update _ _ _) ⟨fun b o hb e => ?_, ?_⟩ (Nat.le_add_right _ _)
      · rw [Heap.get?_update_ne _ _ _ _ (Nat.ne_of_lt hb)]; exact hk b o hb e
      · refine ⟨_, Heap.get?_update_self _ hs rfl, putSet_is (vs := []) ⟨rfl, rfl, rfl, _, _, _, rfl, rfl, rfl, rfl, by simp⟩ rfl rfl ?_ rfl (by simp)⟩
        simp [SetTable.fits, SetTable.fill, SetTable.fresh]
  · intro oi
    refine ⟨fun b o hb e => Heap.get?_push_of_some _ (Heap.get?_push_of_some _ e), Heap.get?_push_of_some _ (Heap.get?_push_size _ rfl)⟩
  · rintro h' tk ⟨hk, o, ho, Y⟩ hkeep
    obtain ⟨oL, _, _, hL, _⟩ := F.ns
    have hLlt : L < s.heap.objs.size := Heap.lt_size hL
    refine h _ o h' tk ⟨F.ns.at' fun o' e => hkeep L o' hLlt e, fun b o' e => hkeep b o' (Heap.lt_size (F.keep b o' e)) (F.keep b o' e), F.above⟩ (fun p hp => ?_) Y fun p hp => Heap.lt_size (N p hp).1
    rcases List.mem_cons.mp hp with rfl | hp
    · refine ⟨ho, Nat.ne_of_gt hLlt, ?_⟩
      cases hq : h₀.get? s.heap.objs.size with
      | none => rfl
      | some o' => exact absurd (Heap.lt_size (F.keep _ _ hq)) (Nat.lt_irrefl _)
    · exact ⟨hkeep _ _ (Heap.lt_size (N p hp).1) (N p hp).1, (N p hp).2.1, (N p hp).2.2⟩
/-- a set of two pairs, out of a list of two -/
theorem set_two {a1 a2 : Addr} {x1 r1 x2 r2 : Str} {k1 k1' k2 k2' : Tok} {n n1 n2 : Nat} {Q : Value → Shared → Prop} (F : Fr h₀ L s.heap m) (N : News h₀ L s.heap all) (hl : (l, listOf #[.ref a1, .ref a2] n) ∈ all) (h1 : (a1, tupO [.str x1 k1, .str r1 k1'] n1) ∈ all) (h2 : (a2, tupO [.str x2 k2, .str r2 k2'] n2) ∈ all) (hne : [x1, r1] ≠ [x2, r2]) (hh : A.handled = none) (hu : A.units + 20 < cLine)
    (h : ∀ S o h' tk vs, vs = [Value.ref a1, Value.ref a2] ∨ vs = [Value.ref a2, Value.ref a1] → Fr h₀ L h' m → News h₀ L h' ((S, o) :: all) → SetIs w o vs → (∀ p ∈ all, p.1 < S) → Q (.ref S) { s with heap := h', toks := tk }) : wpAny (model prog w) A (call (.type "set") [.ref l]) Q E s := by
  have zl := (N _ hl).1
  have z1 := (N _ h1).1
  have z2 := (N _ h2).1
  have hlt1 := Heap.lt_size z1
  have hlt2 := Heap.lt_size z2
  refine call_setG (w := w) (items := #[.ref a1, .ref a2]) (SS := fun i h' => Kept s h' ∧ match i with
    | 0 => h'.get? s.heap.objs.size = some (setObj0 w)
    | 1 => ∃ o hv ep t j, h'.get? s.heap.objs.size = some o ∧ SetIs w o [.ref a1] ∧ o.data = .set #[(hv, .ref a1)] ep t ∧ t.mask = 7 ∧ t.place = #[j] ∧ t.dummies = #[] ∧ t.plain = false ∧ t.led = ledOf w
    | _ => ∃ o vs, (vs = [Value.ref a1, Value.ref a2] ∨ vs = [Value.ref a2, Value.ref a1]) ∧ h'.get? s.heap.objs.size = some o ∧ SetIs w o vs) hh ⟨_, zl, rfl, n, rfl⟩ ?_ ?_ ?_ ?_
  · rintro i g g' ⟨hk, hs⟩ hg
    refine ⟨fun b o hb e => hg b o (Nat.ne_of_lt (Nat.lt_succ_of_lt hb)) (hk b o hb e), ?_⟩
    have hne : s.heap.objs.size ≠ s.heap.objs.size + 1 := Nat.ne_of_lt (Nat.lt_succ_self _)
    match i with
    | 0 => exact hg _ _ hne hs
    | 1 => obtain ⟨o, hv, ep, t, j, ho, rest⟩ := hs; exact ⟨o, hv, ep, t, j, hg _ _ hne ho, rest⟩
    | i + 2 => obtain ⟨o, vs, hvs, ho, Y⟩ := hs; exact ⟨o, vs, hvs, hg _ _ hne ho, Y⟩
  · rintro B i v s' Q' E' hB hv ⟨hk, hs⟩ hq
    match i with
    | 0 =>
      simp at hv
      subst hv
      refine add0 (knd := PySem.strKind prog w) (ks := [x1, r1]) (by omega) (fun k v n => hashStr k v n) (by simp) hs rfl rfl rfl rfl rfl (pairKey (hk _ _ hlt1 z1)) fun j hj => ?_
      refine hq _ _ _ (Heap.SameBut.update _ _ _) ⟨fun b o hb e => ?_, ?_⟩ (Nat.le_add_right _ _)
      · rw [Heap.get?_update_ne _ _ _ _ (Nat.ne_of_lt hb)]; exact hk b o hb e
      · refine ⟨_, _, _, _, j, Heap.get?_update_self _ hs rfl, putSet_is (vs := []) ⟨rfl, rfl, rfl, _, _, _, rfl, rfl, rfl, rfl, by simp⟩ rfl rfl ?_ rfl (by simp), rfl, rfl, rfl, rfl, rfl, rfl⟩
        simp [SetTable.fits, SetTable.fill, SetTable.fresh]
    | 1 =>
      simp at hv
      subst hv
      obtain ⟨o, hv, ep, t, j, ho, Y, hd, hm, hp, hdm, hpl, hld⟩ := hs
      refine add1 (knd := PySem.strKind prog w) (ks1 := [x1, r1]) (ks2 := [x2, r2]) (by omega) ho hd hm hp hdm hpl (pairKey (hk _ _ hlt1 z1)) (pairKey (hk _ _ hlt2 z2)) hne fun es t' hes hf hpl' hld' => ?_
      rcases hes with rfl | rfl
      · refine hq _ _ _ (Heap.SameBut.update _ _ _) ⟨fun b o' hb e => ?_, _, _, .inl rfl, Heap.get?_update_self _ ho (by rw [putSet_of _ _ hd]; rfl), putSet_is Y hd rfl hf (hld'.trans hld) fun _ => hpl'⟩ (Nat.le_add_right _ _)
        rw [Heap.get?_update_ne _ _ _ _ (Nat.ne_of_lt hb)]; exact hk b o' hb e
      · refine hq _ _ _ (Heap.SameBut.update _ _ _) ⟨fun b o' hb e => ?_, _, _, .inr rfl, Heap.get?_update_self _ ho (by rw [putSet_of _ _ hd]; rfl), putSet_is Y hd rfl hf (hld'.trans hld) fun _ => hpl'⟩ (Nat.le_add_right _ _)
        rw [Heap.get?_update_ne _ _ _ _ (Nat.ne_of_lt hb)]; exact hk b o' hb e
    | i + 2 => simp at hv
  · intro oi
    refine ⟨fun b o hb e => Heap.get?_push_of_some _ (Heap.get?_push_of_some _ e), Heap.get?_push_of_some _ (Heap.get?_push_size _ rfl)⟩
  · rintro h' tk ⟨hk, o, vs, hvs, ho, Y⟩ hkeep
    obtain ⟨oL, _, _, hL, _⟩ := F.ns
    have hLlt : L < s.heap.objs.size := Heap.lt_size hL
    refine h _ o h' tk vs hvs ⟨F.ns.at' fun o' e => hkeep L o' hLlt e, fun b o' e => hkeep b o' (Heap.lt_size (F.keep b o' e)) (F.keep b o' e), F.above⟩ (fun p hp => ?_) Y fun p hp => Heap.lt_size (N p hp).1
    rcases List.mem_cons.mp hp with rfl | hp
    · refine ⟨ho, Nat.ne_of_gt hLlt, ?_⟩
      cases hq : h₀.get? s.heap.objs.size with
      | none => rfl
      | some o' => exact absurd (Heap.lt_size (F.keep _ _ hq)) (Nat.lt_irrefl _)
    · exact ⟨hkeep _ _ (Heap.lt_size (N p hp).1) (N p hp).1, (N p hp).2.1, (N p hp).2.2⟩
end
end Mine
end SL22
/-! L23 -/
section SL23
open PySem.Spec PySem.Calls
namespace Mine
/-! a set of one or two items is walked -/
theorem entry_setIter : entryFor table "set.__iter__" = some Builtin.«frozenset.__iter__» :=
  entryFor_alias (id' := "frozenset.__iter__") (by kernel_rfl) rfl (by decide +kernel) (by kernel_rfl)
theorem slot_setiter_next : Slot "set_iterator" "__next__" "set_iterator.__next__" :=
  .of (owner := "set_iterator") (n := "__next__") (by rw [typeLookup_type, builtinLookup_eq_fast]; kernel_rfl) (by decide +kernel) (by decide +kernel) (by decide +kernel)
    (by first | exact .inl (by decide +kernel) | exact .inr (by decide +kernel)) (by rw [isSubtype_type]; kernel_rfl)
theorem entry_setiter_next : entryFor table "set_iterator.__next__" = some Builtin.«set_iterator.__next__» := entryFor_of_tree (by kernel_rfl)
theorem slot_setiter_iter : Slot "set_iterator" "__iter__" "set_iterator.__iter__" :=
  .of (owner := "set_iterator") (n := "__iter__") (by rw [typeLookup_type, builtinLookup_eq_fast]; kernel_rfl) (by decide +kernel) (by decide +kernel) (by decide +kernel)
    (by first | exact .inl (by decide +kernel) | exact .inr (by decide +kernel)) (by rw [isSubtype_type]; kernel_rfl)
theorem entry_setiter_iter : entryFor table "set_iterator.__iter__" = some Builtin.«dict_keyiterator.__iter__» :=
  entryFor_alias (id' := "dict_keyiterator.__iter__") (by kernel_rfl) rfl (by decide +kernel) (by kernel_rfl)
theorem args_setiter_next (a : Value) : argsOk "set_iterator.__next__" ⟨[a], []⟩ := by unfold argsOk; kernel_rfl
theorem args_setiter_iter (a : Value) : argsOk "set_iterator.__iter__" ⟨[a], []⟩ := by unfold argsOk; kernel_rfl
theorem args_set_iter (a : Value) : argsOk "set.__iter__" ⟨[a], []⟩ := PySem.F.args_set_iter_1 a
noncomputable def iterObj (first : Value) (i : Nat) (S : Addr) (n ep : Nat) : Obj := { cls := .type "set_iterator", data := .fields #[first, rawInt i, .ref S, rawInt n, rawInt ep] }
/-- where a set's iterator stands, after i items of ws -/
noncomputable def ItD (w : World) (S T I : Addr) (es : Array (Int × Value)) (ep : Nat) (t : SetTable) (ws : List Value) (i : Nat) (h : Heap) (first : Value) : Prop :=
  (w.params.followText "set-order" = true ∧ (∃ k : Nat, first = rawInt k) ∧ (pickOrder (w.params.setOrder S ep) es).toList.map (·.2) = ws) ∨
  (w.params.followText "set-order" = false ∧ ∃ (x : Value) (hv : Int) (j k : Nat), es = #[(hv, x)] ∧ t.place = #[j] ∧ ws = [x] ∧ first = rawInt k ∧ (i = 0 → k = 0) ∧ (i = 1 → k = j + 1)) ∨
  (w.params.followText "set-order" = false ∧ ∃ (ps : List Nat) (nT : Nat), first = .ref T ∧ h.get? T = some (tupO (ps.map fun (p : Nat) => rawInt p) nT) ∧ ps.map (fun p => (es[p]?).map (·.2)) = ws.map some)
/-- a set's iterator, after i items of ws -/
inductive ItSt (w : World) (S : Addr) (o : Obj) (T I : Addr) (ws : List Value) (i : Nat) (h : Heap) : Prop
  | mk (hS : h.get? S = some o) (first : Value) (es : Array (Int × Value)) (ep : Nat) (t : SetTable) : h.get? I = some (iterObj first i S ws.length ep) → o.data = .set es ep t → es.size = ws.length → t.fits es.size = true → t.led = ledOf w → (2 ≤ ws.length → t.plain = false) → ItD w S T I es ep t ws i h first → ItSt w S o T I ws i h
theorem ItSt.hS {w : World} {S : Addr} {o : Obj} {T I : Addr} {ws : List Value} {i : Nat} {h : Heap} (x : ItSt w S o T I ws i h) : h.get? S = some o := by
  cases x; assumption
theorem one_of_size {α : Type} {es : Array α} (h : es.size = 1) : ∃ e1, es = #[e1] := by
  obtain ⟨l⟩ := es
  match l, h with
  | [e1], _ => exact ⟨e1, rfl⟩
theorem two_of_size {α : Type} {es : Array α} (h : es.size = 2) : ∃ e1 e2, es = #[e1, e2] := by
  obtain ⟨l⟩ := es
  match l, h with
  | [e1, e2], _ => exact ⟨e1, e2, rfl⟩
theorem pick1 (f : Nat → Nat) (e : Int × Value) : pickOrder f #[e] = #[e] := by
  simp [pickOrder, pickOrder.go, Nat.mod_one]
theorem picks_le (f : Nat → Nat) {es : Array (Int × Value)} {vs : List Value} (h1 : es.size = 1 ∨ es.size = 2) (hes : es.toList.map (·.2) = vs) (p2 : ∀ e e' : Int × Value, pickOrder f #[e, e'] = #[e, e'] ∨ pickOrder f #[e, e'] = #[e', e]) :
    (pickOrder f es).toList.map (·.2) = vs ∨ (pickOrder f es).toList.map (·.2) = vs.reverse := by
  subst hes
  rcases h1 with h | h
  · obtain ⟨e1, rfl⟩ := one_of_size h
    left; rw [pick1]
  · obtain ⟨e1, e2, rfl⟩ := two_of_size h
    rcases p2 e1 e2 with e | e
    · left; rw [e]
    · right; rw [e]; rfl
theorem pick2 (f : Nat → Nat) (e e' : Int × Value) : pickOrder f #[e, e'] = #[e, e'] ∨ pickOrder f #[e, e'] = #[e', e] := by
  rcases Nat.mod_two_eq_zero_or_one (f 0) with h | h
  · left; simp [pickOrder, pickOrder.go, h, Nat.mod_one]
  · right; simp [pickOrder, pickOrder.go, h, Nat.mod_one]
section
variable {prog : Program} {w : World} {A : Around} {E : Value → Shared → Prop} {s : Shared} {S : Addr} {o : Obj}
theorem wpAny_choose {src : Source} {n : Nat} {Q : Nat → Shared → Prop} (hn : n ≠ 0) (h : ∀ i d, i < n → Q i { s with drawn := d }) : wpAny (model prog w) A (choose src n) Q E s := by
  intro Γ p hΓ
  unfold choose
  rw [Sem.wp_choose]
  refine ⟨hn, ?_⟩
  show Sem.wp _ _ (Sem.pure _) _ _ _ _
  rw [Sem.wp_pure]
  exact h _ _ (Nat.mod_lt _ (Nat.pos_of_ne_zero hn))
theorem wpAny_setsByText {Q : Bool → Shared → Prop} (h : Q (w.params.followText "set-order") s) : wpAny (model prog w) A setsByText Q E s := by
  unfold setsByText
  exact wpAny_bind (wpAny_askSetting (wpAny_pure h))
theorem wpAny_setEpoch_of {es : Array (Int × Value)} {ep : Nat} {t : SetTable} {Q : Nat → Shared → Prop} (ho : s.heap.get? S = some o) (hd : o.data = .set es ep t) (hf : t.fits es.size = true) (h : Q ep s) : wpAny (model prog w) A (setEpoch S) Q E s := by
  unfold setEpoch
  exact wpAny_bind (wpAny_setState_of ho hd hf (wpAny_pure h))
theorem iter_fields {first : Value} {n ep : Nat} {Q : Value → Shared → Prop} (h : Q (.ref s.heap.objs.size) { s with heap := s.heap.push (iterObj first 0 S n ep) }) :
    wpAny (model prog w) A (newFields "set_iterator" [first, rawInt 0, .ref S, rawInt n, rawInt ep]) Q E s := by
  unfold newFields
  exact wpAny_newObj_type h
/-- iter(S) -/
theorem set_iter {vs : List Value} {Q : Value → Shared → Prop} (ho : s.heap.get? S = some o) (Y : SetIs w o vs) (h1 : vs ≠ []) (h2 : vs.length ≤ 2)
    (h : ∀ I T ws h' d, (ws = vs ∨ ws = vs.reverse) → (∀ b o, s.heap.get? b = some o → h'.get? b = some o) → s.heap.get? I = none → (T = S ∨ s.heap.get? T = none) → T ≠ I → I < h'.objs.size → T < h'.objs.size → ItSt w S o T I ws 0 h' → Q (.ref I) { s with heap := h', drawn := d }) :
    wpAny (model prog w) A (pyIter (.ref S)) Q E s := by
  have hT : s.TypeIs (.ref S) "set" := ⟨o, ho, Y.cls⟩
  obtain ⟨es, ep, t, hd, hes, hf, hled, hpl⟩ := Y.data
  have hlen : es.size = vs.length := by rw [← hes]; simp
  have hSlt := Heap.lt_size ho
  refine wpAny_pyIter_slot hT PySem.F.slot_set_iter (wpAny_call_entry PySem.F.slot_set_iter hT entry_setIter ?_ (args_set_iter _))
  unfold Builtin.«frozenset.__iter__»
  refine wpAny_bind (wpAny_pure ?_)
  unfold Builtin.Frozenset.sizeOf
  refine wpAny_bind (wpAny_bind (wpAny_setEntries_of ho hd hf (wpAny_pure ?_)))
  unfold setDrawn
  refine wpAny_bind (wpAny_bind (wpAny_setState_of ho hd hf (wpAny_bind (wpAny_setsByText (wpAny_pure ?_)))))
  have fin : ∀ (first : Value) (g : Heap) (d : Drawn) (T : Addr) (ws : List Value), (ws = vs ∨ ws = vs.reverse) → (∀ b o, s.heap.get? b = some o → g.get? b = some o) → s.heap.objs.size ≤ g.objs.size → (T = S ∨ s.heap.get? T = none) → T < g.objs.size →
      (∀ h' : Heap, (∀ b o, g.get? b = some o → h'.get? b = some o) → ItD w S T g.objs.size es ep t ws 0 h' first) →
      wpAny (model prog w) A.in1 (do
        let e ← setEpoch S
        let v ← newFields "set_iterator" [first, rawInt 0, Value.ref S, rawInt ↑es.size, rawInt ↑e]
        ret v) (fun fin s' => ∃ v, fin = Fin.done (Flow.ret v) ∧ ∃ T' r, s'.TypeIs v T' ∧ typeLookup (Value.type T') (Str.ofString "__next__") = pure (some r) ∧ Q v s') E { s with heap := g, drawn := d } := by
    intro first g d T ws hws hk hsz hT' hTl hD
    have hl : ws.length = es.size := by rcases hws with e | e <;> rw [e, hlen]; simp
    refine wpAny_bind (wpAny_setEpoch_of (hk _ _ ho) hd hf ?_)
    refine wpAny_bind (iter_fields ?_)
    have hI : (g.push (iterObj first 0 S es.size ep)).get? g.objs.size = some (iterObj first 0 S es.size ep) := Heap.get?_push_size _ rfl
    have hup : ∀ b o, g.get? b = some o → (g.push (iterObj first 0 S es.size ep)).get? b = some o := fun b o e => Heap.get?_push_of_some _ e
    refine wpAny_pure ⟨_, rfl, "set_iterator", _, ⟨_, hI, rfl⟩, slot_setiter_next.lookup, ?_⟩
    refine h _ T ws _ d hws (fun b o e => hup _ _ (hk b o e)) ?_ hT' (Nat.ne_of_lt hTl) (Heap.lt_size hI) ?_ ⟨hup _ _ (hk _ _ ho), first, es, ep, t, by rw [hl]; exact hI, hd, hl.symm, hf, hled, ?_, hD _ hup⟩
    · exact Heap.get?_none_of_le hsz
    · rw [Heap.size_push]; exact Nat.lt_succ_of_lt hTl
    · rw [hl, hlen]; exact hpl
  have big : ∀ (P : Prop) [Decidable P] (a b : Sem PySem.Fin) (R : PySem.Fin → Shared → Prop), (P → wpAny (model prog w) A.in1 a R E s) → (¬ P → wpAny (model prog w) A.in1 b R E s) → wpAny (model prog w) A.in1 (if P then a else b) R E s := by
    intro P _ a b R ha hb
    split
    · exact ha ‹_›
    · exact hb ‹_›
  refine big _ _ _ _ (fun hc => ?_) (fun hc => ?_)
  · have hc' : (!w.params.followText "set-order" && (!t.plain && decide (es.size > 1))) = true := hc
    simp only [Bool.and_eq_true, Bool.not_eq_true', decide_eq_true_eq] at hc'
    obtain ⟨c1, c2, c3⟩ := hc'
    have hs2 : es.size = 2 := by clear fin big; omega
    obtain ⟨e1, e2, rfl⟩ := two_of_size hs2
    have draw : ∀ (R : List Nat → Shared → Prop), (∀ d, R [0, 1] { s with drawn := d }) → (∀ d, R [1, 0] { s with drawn := d }) → wpAny (model prog w) A.in1 (drawOrder 2 [0, 1]) R E s := by
      intro R r1 r2
      refine wpAny_bind (wpAny_choose (by decide) fun i d hi => ?_)
      have hi : i < 2 := hi
      rcases (by omega : i = 0 ∨ i = 1) with rfl | rfl
      · refine wpAny_bind ?_
        show wpAny _ _ (drawOrder 1 [1]) _ _ _
        refine wpAny_bind (wpAny_choose (by decide) fun i d' hi => ?_)
        obtain rfl : i = 0 := Nat.lt_one_iff.mp hi
        exact wpAny_bind (wpAny_pure (wpAny_pure (wpAny_pure (r1 d'))))
      · refine wpAny_bind ?_
        show wpAny _ _ (drawOrder 1 [0]) _ _ _
        refine wpAny_bind (wpAny_choose (by decide) fun i d' hi => ?_)
        obtain rfl : i = 0 := Nat.lt_one_iff.mp hi
        exact wpAny_bind (wpAny_pure (wpAny_pure (wpAny_pure (r2 d'))))
    have fin2 : ∀ (l : List Nat) d, (l = [0, 1] ∨ l = [1, 0]) → wpAny (model prog w) A.in1 (do
        let first ← newTuple (List.map (fun (i : Nat) => rawInt i) l)
        let e ← setEpoch S
        let v ← newFields "set_iterator" [first, rawInt 0, Value.ref S, rawInt ↑(#[e1, e2] : Array (Int × Value)).size, rawInt ↑e]
        ret v) (fun fin s' => ∃ v, fin = Fin.done (Flow.ret v) ∧ ∃ T' r, s'.TypeIs v T' ∧ typeLookup (Value.type T') (Str.ofString "__next__") = pure (some r) ∧ Q v s') E { s with drawn := d } := by
      intro l d hl
      refine wpAny_bind (wpAny_newTuple ?_ (by rcases hl with rfl | rfl <;> decide))
      refine fin (.ref s.heap.objs.size) _ d s.heap.objs.size (if l = [0, 1] then vs else vs.reverse) ?_ (fun b o e => Heap.get?_push_of_some _ e) (by rw [Heap.size_push]; exact Nat.le_succ _) (.inr (Heap.get?_none_of_le (Nat.le_refl _))) (by rw [Heap.size_push]; exact Nat.lt_succ_self _)
        fun h' hk => .inr (.inr ⟨c1, l, 0, rfl, hk _ _ (Heap.get?_push_size _ rfl), ?_⟩)
      · split
        · exact .inl rfl
        · exact .inr rfl
      · rw [← hes]
        rcases hl with rfl | rfl <;> rfl
    refine wpAny_bind (draw _ (fun d => fin2 _ d (.inl rfl)) (fun d => fin2 _ d (.inr rfl)))
  · have hc' : ¬ (!w.params.followText "set-order" && (!t.plain && decide (es.size > 1))) = true := hc
    refine wpAny_bind (wpAny_pure ?_)
    cases hb : w.params.followText "set-order" with
    | true =>
      refine fin _ s.heap s.drawn S ((pickOrder (w.params.setOrder S ep) es).toList.map (·.2)) ?_ (fun _ _ e => e) (Nat.le_refl _) (.inl rfl) hSlt fun h' _ => .inl ⟨hb, ⟨0, rfl⟩, rfl⟩
      have hz : es.size ≠ 0 := by rw [hlen]; exact fun e => h1 (List.length_eq_zero_iff.mp e)
      exact picks_le _ (by clear fin big; omega) hes (pick2 _)
    | false =>
      rw [hb] at hc'
      have hn : ¬ 1 < es.size := fun hgt => hc' (by rw [hpl (by omega)]; simpa using hgt)
      have hz : es.size ≠ 0 := by rw [hlen]; exact fun e => h1 (List.length_eq_zero_iff.mp e)
      obtain ⟨e1, rfl⟩ : ∃ e1, es = #[e1] := by
        exact one_of_size (by clear fin big; omega)
      have hpz : t.place.size = 1 := by
        have := hf
        simp only [SetTable.fits, Bool.and_eq_true, beq_iff_eq] at this
        exact this.1
      obtain ⟨j, hj⟩ : ∃ j, t.place = #[j] := by
        exact one_of_size hpz
      exact fin _ s.heap s.drawn S vs (.inl rfl) (fun _ _ e => e) (Nat.le_refl _) (.inl rfl) hSlt fun h' _ => .inr (.inl ⟨hb, e1.2, e1.1, j, 0, rfl, hj, hes.symm, rfl, fun _ => rfl, fun h => absurd h (by decide)⟩)
end
end Mine
end SL23
/-! L24 -/
section SL24
open PySem.Spec PySem.Calls
namespace Mine
section
variable {prog : Program} {w : World} {A : Around} {E : Value → Shared → Prop} {s : Shared} {S T I : Addr} {o : Obj} {ws : List Value} {i : Nat}
theorem ItSt.typeIs (hit : ItSt w S o T I ws i s.heap) : s.TypeIs (.ref I) "set_iterator" := by
  obtain ⟨_, first, es, ep, t, hI, _⟩ := hit
  exact ⟨_, hI, rfl⟩
theorem setNext_text {es : Array (Int × Value)} {ep slot : Nat} {t : SetTable} {Q : Option (Value × Nat) → Shared → Prop} (hb : w.params.followText "set-order" = true) (ho : s.heap.get? S = some o) (hd : o.data = .set es ep t) (hf : t.fits es.size = true)
    (h : Q (((pickOrder (w.params.setOrder S ep) es)[i]?).map fun e => (e.2, slot)) s) : wpAny (model prog w) A (setNext S slot i ep) Q E s := by
  unfold setNext
  refine wpAny_bind (wpAny_setState_of ho hd hf ?_)
  dsimp only
  refine wpAny_bind (wpAny_setsByText ?_)
  rw [if_pos hb, if_neg (by simp)]
  refine wpAny_bind ?_
  unfold setWalk
  refine wpAny_bind (wpAny_setState_of ho hd hf ?_)
  dsimp only
  refine wpAny_bind (wpAny_setsByText ?_)
  rw [if_pos hb]
  exact wpAny_bind (wpAny_askSetting (wpAny_pure (wpAny_pure h)))
theorem setNext_one {x : Value} {hv : Int} {ep slot j : Nat} {t : SetTable} {Q : Option (Value × Nat) → Shared → Prop} (hb : w.params.followText "set-order" = false) (ho : s.heap.get? S = some o) (hd : o.data = .set #[(hv, x)] ep t) (hf : t.fits 1 = true) (hp : t.place = #[j]) (hled : t.led = ledOf w)
    (h : Q (if j < slot then none else some (x, j + 1)) s) : wpAny (model prog w) A (setNext S slot i ep) Q E s := by
  have ht : t.led = true := by rw [hled]; simp [ledOf, hb]
  unfold setNext
  refine wpAny_bind (wpAny_setState_of ho hd hf ?_)
  dsimp only
  refine wpAny_bind (wpAny_setsByText ?_)
  rw [if_neg (by rw [hb]; exact Bool.false_ne_true)]
  have big : ∀ (P : Prop) [Decidable P] (a b : Sem (Option (Value × Nat))), ¬ P → wpAny (model prog w) A b Q E s → wpAny (model prog w) A (if P then a else b) Q E s := by
    intro P _ a b hn hb
    rw [if_neg hn]; exact hb
  refine big _ _ _ (fun hc => ?_) ?_
  · have hc' : (!t.plain && decide (1 > 1)) = true := hc
    simp at hc'
  refine wpAny_bind ?_
  show wpAny _ _ (if (!t.led && !(#[(hv, x)] : Array (Int × Value)).isEmpty) = true then _ else pure ()) _ _ _
  rw [if_neg (by rw [ht]; simp)]
  refine wpAny_pure (wpAny_pure ?_)
  rw [hp, below1]
  by_cases hj : j < slot
  · rw [if_pos hj] at h ⊢
    exact h
  · rw [if_neg hj] at h ⊢
    exact h
theorem nextDrawn {es : Array (Int × Value)} {ep p : Nat} {t : SetTable} {v : Value} {Q : Value → Shared → Prop} (ho : s.heap.get? S = some o) (hd : o.data = .set es ep t) (hf : t.fits es.size = true) (hp : (es[p]?).map (·.2) = some v) (h : Q v s) : wpAny (model prog w) A (setNextDrawn S p ep) Q E s := by
  unfold setNextDrawn
  refine wpAny_bind (wpAny_setState_of ho hd hf ?_)
  dsimp only
  rw [if_neg (by simp)]
  cases he : es[p]? with
  | none => rw [he] at hp; cases hp
  | some e =>
    rw [he] at hp
    cases hp
    exact wpAny_pure h
theorem upd_iter {first first' : Value} {n ep i' : Nat} {h : Heap} (hI : h.get? I = some (iterObj first i S n ep)) :
    ((h.update I (Obj.mapFields (·.setIfInBounds 0 first'))).update I (Obj.mapFields (·.setIfInBounds 1 (rawInt i')))).get? I = some (iterObj first' i' S n ep) := by
  have h1 := Heap.get?_update_self (Obj.mapFields (·.setIfInBounds 0 first')) hI rfl
  exact Heap.get?_update_self (Obj.mapFields (·.setIfInBounds 1 (rawInt i'))) h1 rfl
theorem upd_iter1 {first : Value} {n ep i' : Nat} {h : Heap} (hI : h.get? I = some (iterObj first i S n ep)) :
    (h.update I (Obj.mapFields (·.setIfInBounds 1 (rawInt i')))).get? I = some (iterObj first i' S n ep) :=
  Heap.get?_update_self (Obj.mapFields (·.setIfInBounds 1 (rawInt i'))) hI rfl
theorem next_item {v : Value} {Q : Option Value → Shared → Prop} (hIS : I ≠ S) (hTI : T ≠ I) (hl : ws.length ≤ 2) (hit : ItSt w S o T I ws i s.heap) (hx : ws[i]? = some v)
    (hQ : ∀ h', ItSt w S o T I ws (i + 1) h' → Heap.ExtBut I s.heap h' → Q (some v) { s with heap := h' }) : wpAny (model prog w) A (pyNext (.ref I)) Q E s := by
  have hT := hit.typeIs
  obtain ⟨hS, first, es, ep, t, hI, hd, hsz, hf, hled, hpl, hD⟩ := hit
  unfold pyNext
  refine wpAny_bind (wpAny_attempt (wpAny_callSpecial?_slot (name := Str.ofString "__next__") hT slot_setiter_next
    (wpAny_call_entry slot_setiter_next hT entry_setiter_next ?_ (args_setiter_next _))))
  refine wpAny_bind (wpAny_pure ?_)
  refine wpAny_bind (wpAny_fieldsOf hI rfl ?_)
  refine wpAny_bind (wpAny_setEntries_of hS hd hf ?_)
  rw [if_neg (by rw [hsz]; simp [rawInt])]
  have hSI : S ≠ I := Ne.symm hIS
  have hil : i < ws.length := by
    rcases Nat.lt_or_ge i ws.length with h | h
    · exact h
    · rw [List.getElem?_eq_none h] at hx; cases hx
  rcases hD with ⟨hb, ⟨k, rfl⟩, hw⟩ | ⟨hb, x, hv, j, k, rfl, hp, rfl, rfl, hk0, hk1⟩ | ⟨hb, ps, nT, rfl, hTT, hps⟩
  · show wpAny _ _ (setNext S (k : Int).toNat (i : Int).toNat (ep : Int).toNat >>= _) _ _ _
    simp only [Int.toNat_natCast]
    refine wpAny_bind (setNext_text hb hS hd hf ?_)
    have e : (pickOrder (w.params.setOrder S ep) es)[i]?.map (·.2) = some v := by
      rw [← hx, ← hw]; simp
    cases hq : (pickOrder (w.params.setOrder S ep) es)[i]? with
    | none => rw [hq] at e; cases e
    | some p =>
      rw [hq] at e
      cases e
      simp only [Option.map_some]
      refine wpAny_bind (wpAny_setField hI rfl (by simp) ?_)
      refine wpAny_bind (wpAny_setField (Heap.get?_update_self _ hI rfl) rfl (by simp) ?_)
      have hI' := upd_iter (first' := rawInt k) (i' := i + 1) hI
      refine wpAny_pure ⟨_, rfl, wpAny_pure (hQ _ ⟨?_, rawInt k, es, ep, t, hI', hd, hsz, hf, hled, hpl, .inl ⟨hb, ⟨k, rfl⟩, hw⟩⟩ ?_)⟩
      · rw [Heap.get?_update_ne _ _ _ _ hSI, Heap.get?_update_ne _ _ _ _ hSI]; exact hS
      · intro b o' hbI e; rw [Heap.get?_update_ne _ _ _ _ hbI, Heap.get?_update_ne _ _ _ _ hbI]; exact e
  · obtain rfl : i = 0 := by simpa using hil
    obtain rfl := hk0 rfl
    cases hx
    show wpAny _ _ (setNext S ((0 : Nat) : Int).toNat ((0 : Nat) : Int).toNat (ep : Int).toNat >>= _) _ _ _
    simp only [Int.toNat_natCast]
    refine wpAny_bind (setNext_one hb hS hd hf hp hled ?_)
    rw [if_neg (Nat.not_lt_zero _)]
    dsimp only
    refine wpAny_bind (wpAny_setField hI rfl (by simp) ?_)
    refine wpAny_bind (wpAny_setField (Heap.get?_update_self _ hI rfl) rfl (by simp) ?_)
    have hI' := upd_iter (first' := rawInt (j + 1 : Nat)) (i' := 0 + 1) hI
    refine wpAny_pure ⟨_, rfl, wpAny_pure (hQ _ ⟨?_, rawInt (j + 1 : Nat), _, ep, t, hI', hd, hsz, hf, hled, hpl, .inr (.inl ⟨hb, _, hv, j, j + 1, rfl, hp, rfl, rfl, fun h => absurd h (by decide), fun _ => rfl⟩)⟩ ?_)⟩
    · rw [Heap.get?_update_ne _ _ _ _ hSI, Heap.get?_update_ne _ _ _ _ hSI]; exact hS
    · intro b o' hbI e; rw [Heap.get?_update_ne _ _ _ _ hbI, Heap.get?_update_ne _ _ _ _ hbI]; exact e
  · have hl2 : ps.length = ws.length := by have := congrArg List.length hps; simpa using this
    have hip : i < ps.length := by omega
    have hpi : (es[ps[i]]?).map (·.2) = some v := by
      have := congrArg (fun l => l[i]?) hps
      simp [hip, hx] at this
      simpa using this
    show wpAny _ _ (seqItems? (Value.ref T) >>= _) _ _ _
    refine wpAny_bind (wpAny_seqItems hTT rfl ?_)
    have e : (ps.map fun (p : Nat) => rawInt p).toArray[(i : Int).toNat]? = some (rawInt ps[i]) := by simp [hip]
    dsimp only
    rw [e]
    show wpAny _ _ (setNextDrawn S ((ps[i] : Nat) : Int).toNat (ep : Int).toNat >>= _) _ _ _
    simp only [Int.toNat_natCast]
    refine wpAny_bind (nextDrawn hS hd hf hpi ?_)
    refine wpAny_bind (wpAny_setField hI rfl (by simp) ?_)
    have hI' := upd_iter1 (i' := i + 1) hI
    refine wpAny_pure ⟨_, rfl, wpAny_pure (hQ _ ⟨?_, _, es, ep, t, hI', hd, hsz, hf, hled, hpl, .inr (.inr ⟨hb, ps, nT, rfl, ?_, hps⟩)⟩ ?_)⟩
    · rw [Heap.get?_update_ne _ _ _ _ hSI]; exact hS
    · rw [Heap.get?_update_ne _ _ _ _ hTI]; exact hTT
    · intro b o' hbI e; rw [Heap.get?_update_ne _ _ _ _ hbI]; exact e
theorem stop_end {M : Sem Unit} {Q : Option Value → Shared → Prop} (hh : A.handled = none) (h : ∀ h', Heap.ExtBut I s.heap h' → Q none { s with heap := h' }) :
    wpAny (model prog w) A.in1 (do let e ← newExc (.type "StopIteration") []; raiseNew e : Sem PySem.Fin)
    (fun fin s' => ∃ v, fin = Fin.done (Flow.ret v) ∧ wpAny (model prog w) A
            (match (Except.ok (some v) : Except Value (Option Value)) with
            | Except.ok (some v) => pure (some v)
            | Except.ok none => unsupported "iter:the-iterator's-class-has-lost-its-__next__-amid-the-walk"
            | Except.error e => do
              let __do_lift ← isInstance e (Value.type "StopIteration")
              if __do_lift = true then pure none else throw e) Q E s')
    (fun e s' => wpAny (model prog w) A
        (match (Except.error e : Except Value (Option Value)) with
        | Except.ok (some v) => pure (some v)
        | Except.ok none => unsupported "iter:the-iterator's-class-has-lost-its-__next__-amid-the-walk"
        | Except.error e => do
          let __do_lift ← isInstance e (Value.type "StopIteration")
          if __do_lift = true then pure none else throw e) Q E s') s := by
  refine wpAny_bind ?_
  simp only [newExc, newTuple]
  refine wpAny_bind (wpAny_newObj_type ?_ (by size_fits))
  refine wpAny_bind (m := firstArgMember _ _) (wpAny_of_eq (a := Value.none) (by first | rfl | (simp only [firstArgMember]; rfl)) ?_)
  refine wpAny_newObj_type ?_ (by size_fits)
  simp only [raiseNew]
  refine wpAny_bind (wpAny_handled ?_)
  rw [show A.in1.handled = none from hh]
  refine wpAny_bind (wpAny_pure (wpAny_throw ?_))
  refine wpAny_bind (wpAny_isInstance (T := "StopIteration") (b := true) ⟨_, Heap.get?_push_size _ rfl, rfl⟩ isSubtype_stop ?_)
  exact wpAny_pure (h _ fun b o' hb e => Heap.get?_push_of_some _ (Heap.get?_push_of_some _ e))
theorem next_end {Q : Option Value → Shared → Prop} (hh : A.handled = none) (hIS : I ≠ S) (hTI : T ≠ I) (hne : ws ≠ []) (hit : ItSt w S o T I ws ws.length s.heap)
    (hQ : ∀ h', Heap.ExtBut I s.heap h' → Q none { s with heap := h' }) : wpAny (model prog w) A (pyNext (.ref I)) Q E s := by
  have hT := hit.typeIs
  obtain ⟨hS, first, es, ep, t, hI, hd, hsz, hf, hled, hpl, hD⟩ := hit
  unfold pyNext
  refine wpAny_bind (wpAny_attempt (wpAny_callSpecial?_slot (name := Str.ofString "__next__") hT slot_setiter_next
    (wpAny_call_entry slot_setiter_next hT entry_setiter_next ?_ (args_setiter_next _))))
  refine wpAny_bind (wpAny_pure ?_)
  refine wpAny_bind (wpAny_fieldsOf hI rfl ?_)
  refine wpAny_bind (wpAny_setEntries_of hS hd hf ?_)
  rw [if_neg (by rw [hsz]; simp)]
  rcases hD with ⟨hb, ⟨k, rfl⟩, hw⟩ | ⟨hb, x, hv, j, k, rfl, hp, rfl, rfl, hk0, hk1⟩ | ⟨hb, ps, nT, rfl, hTT, hps⟩
  · show wpAny _ _ (setNext S (k : Int).toNat (ws.length : Int).toNat (ep : Int).toNat >>= _) _ _ _
    simp only [Int.toNat_natCast]
    refine wpAny_bind (setNext_text hb hS hd hf ?_)
    have e : (pickOrder (w.params.setOrder S ep) es)[ws.length]? = none := by
      have hl : (pickOrder (w.params.setOrder S ep) es).size = ws.length := by
        rw [← hw]; simp
      rw [← hl]; simp
    rw [e]
    simp only [Option.map_none]
    refine wpAny_bind (wpAny_setField hI rfl (by simp) ?_)
    refine stop_end (M := pure ()) (I := I) hh fun h' hk => hQ h' fun b o' hbI e => hk b o' hbI ?_
    rw [Heap.get?_update_ne _ _ _ _ hbI]; exact e
  · obtain rfl := hk1 rfl
    show wpAny _ _ (setNext S ((j + 1 : Nat) : Int).toNat ((1 : Nat) : Int).toNat (ep : Int).toNat >>= _) _ _ _
    simp only [Int.toNat_natCast]
    refine wpAny_bind (setNext_one hb hS hd hf hp hled ?_)
    rw [if_pos (Nat.lt_succ_self _)]
    dsimp only
    refine wpAny_bind (wpAny_setField hI rfl (by simp) ?_)
    refine stop_end (M := pure ()) (I := I) hh fun h' hk => hQ h' fun b o' hbI e => hk b o' hbI ?_
    rw [Heap.get?_update_ne _ _ _ _ hbI]; exact e
  · have hl2 : ps.length = ws.length := by have := congrArg List.length hps; simpa using this
    show wpAny _ _ (seqItems? (Value.ref T) >>= _) _ _ _
    refine wpAny_bind (wpAny_seqItems hTT rfl ?_)
    have e : (ps.map fun (p : Nat) => rawInt p).toArray[(ws.length : Int).toNat]? = none := by simp [hl2]
    dsimp only
    rw [e]
    refine wpAny_bind (wpAny_setField hI rfl (by simp) ?_)
    refine wpAny_bind (wpAny_setField (Heap.get?_update_self _ hI rfl) rfl (by simp) ?_)
    refine stop_end (M := pure ()) (I := I) hh fun h' hk => hQ h' fun b o' hbI e => hk b o' hbI ?_
    rw [Heap.get?_update_ne _ _ _ _ hbI, Heap.get?_update_ne _ _ _ _ hbI]; exact e
theorem iter_iter {Q : Value → Shared → Prop} (hit : ItSt w S o T I ws i s.heap) (h : Q (.ref I) s) : wpAny (model prog w) A (pyIter (.ref I)) Q E s := by
  have hT := hit.typeIs
  refine wpAny_pyIter_slot hT slot_setiter_iter (wpAny_call_entry slot_setiter_iter hT entry_setiter_iter ?_ (args_setiter_iter _))
  show wpAny _ _ (ret (.ref I)) _ _ s
  exact wpAny_pure ⟨_, rfl, "set_iterator", _, hT, slot_setiter_next.lookup, h⟩
theorem ItSt.at {h h' : Heap} (x : ItSt w S o T I ws i h) (hk : ∀ b ∈ [I, S, T], ∀ o, h.get? b = some o → h'.get? b = some o) : ItSt w S o T I ws i h' := by
  obtain ⟨hS, first, es, ep, t, hI, hd, hsz, hf, hled, hpl, hD⟩ := x
  refine ⟨hk S (by simp) _ hS, first, es, ep, t, hk I (by simp) _ hI, hd, hsz, hf, hled, hpl, ?_⟩
  rcases hD with h | h | ⟨hb, ps, nT, e, hTT, hps⟩
  · exact .inl h
  · exact .inr (.inl h)
  · exact .inr (.inr ⟨hb, ps, nT, e, hk T (by simp) _ hTT, hps⟩)
theorem walksSet (hh : A.handled = none) (hIS : I ≠ S) (hTI : T ≠ I) (hne : ws ≠ []) (hl : ws.length ≤ 2) :
    Walks prog w A I [I, S, T] [I] ws.length (fun i v => ws[i]? = some v) (fun i h => ItSt w S o T I ws i h) where
  sub := fun b hb => by simp at hb; simp [hb]
  frame := fun _ _ _ st hk => st.at hk
  item := fun i s Q E hi st hQ => by
    refine next_item hIS hTI hl st (v := ws[i]) (by simp [hi]) fun h' hit' hs' => ?_
    exact hQ _ h' s.toks (by simp [hi]) hit' fun b o hb e => hs' b o (fun h => hb (by simp [h])) e
  done := fun s Q E st hQ => next_end hh hIS hTI hne st fun h' he' => hQ h' s.toks fun b o hb e => he' b o (fun h => hb (by simp [h])) e
  self := fun _ _ _ _ st hQ => iter_iter st hQ
end
end Mine
end SL24
/-! L25 -/
section SL25
open PySem.Spec PySem.Calls
namespace Mine
section
variable {prog : Program} {w : World} {A : Around} {E : Value → Shared → Prop} {s : Shared} {S : Addr} {o : Obj} {vs : List Value} {h₀ : Heap} {L : Addr} {m : Str → Option Value} {news : List (Addr × Obj)}
theorem hint_set {Q : Bool → Shared → Prop} (hT : s.TypeIs (.ref S) "set") (h : Q false s) : wpAny (model prog w) A (Builtin.List.listLengthHint (.ref S)) Q E s := by
  unfold Builtin.List.listLengthHint
  refine wpAny_bind (wpAny_specialOf hT PySem.F.slot_set_len.lookup ?_)
  generalize hid : ("set.__len__" : String) = id0
  wp_delta
  rw [show splitId id0 = some ("set", "__len__") from by subst hid; decide +kernel]
  subst hid
  refine wpAny_bind (wpAny_isInstance (T := "set") (b := true) hT (by rw [isSubtype_type]; kernel_rfl) ?_)
  refine wpAny_ite_split (fun hab => absurd hab (by decide)) (fun _ => ?_)
  refine wpAny_ite_split (fun _ => ?_) (fun hab => absurd (by decide +kernel) hab)
  refine wpAny_bind (wpAny_typeOf hT ?_)
  exact wpAny_pure h
theorem set_extend {R : Result → Shared → Prop} (hh : A.handled = none) (ho : s.heap.get? S = some o) (Y : SetIs w o vs) (h1 : vs ≠ []) (h2 : vs.length ≤ 2) (D : Addr) (hDS : D ≠ S) (res : Value) (c₀ : Nat) (hD : s.heap.get? D = some { cls := .type "list", data := .seq #[] c₀ })
    (hR : ∀ h' d tk ws acc' c', (ws = vs ∨ ws = vs.reverse) → (∀ b o, b ≠ D → s.heap.get? b = some o → h'.get? b = some o) → h'.get? D = some { cls := .type "list", dict := none, data := .seq acc' c', slots := #[] } → acc'.toList = ws → R (.ok (.ret res)) { s with heap := h', drawn := d, toks := tk }) :
    wpAny (model prog w) A.in1 (Builtin.List.listExtendWith (.ref D) (.ref S) res)
      (fun fin s' => match fin with | .done f => R (.ok f) s' | .again c' => c'.quiet = true ∧ codeAny (model prog w) A c' R s') (fun e s' => R (.error e) s') s := by
  have hT : s.TypeIs (.ref S) "set" := ⟨o, ho, Y.cls⟩
  unfold Builtin.List.listExtendWith
  refine wpAny_bind (wpAny_typeOf hT ?_)
  have e1 : Builtin.List.listSameRef (.ref D) (.ref S) = false := by simp [Builtin.List.listSameRef, hDS]
  have e2 : (Value.type "set" == Value.type "list") = false := by decide
  have e3 : (Value.type "set" == Value.type "tuple") = false := by decide
  simp only [e1, e2, e3, Bool.or_false, Bool.false_eq_true, if_false]
  refine wpAny_bind (set_iter ho Y h1 h2 fun I T ws g d hws hk hIn hTn hTI hIl hTl st => ?_)
  have hDI : D ≠ I := fun e => by rw [e, hIn] at hD; cases hD
  have hDT : D ≠ T := fun e => by
    rcases hTn with e' | e'
    · exact hDS (e.trans e')
    · rw [e, e'] at hD; cases hD
  have hIS : I ≠ S := fun e => by rw [← e, hIn] at ho; cases ho
  have hwne : ws ≠ [] := by rcases hws with rfl | rfl <;> simpa using h1
  have hwl : ws.length ≤ 2 := by rcases hws with rfl | rfl <;> simpa using h2
  have W : Walks prog w A.in1 I [I, S, T] [I] ws.length (fun i v => ws[i]? = some v) (fun i h => ItSt w S o T I ws i h) := walksSet hh hIS hTI hwne hwl
  have hSf : D ∉ [I, S, T] := by simp only [List.mem_cons, List.not_mem_nil, or_false, not_or]; exact ⟨hDI, hDS, hDT⟩
  have key : ∀ (h : Heap) (c₁ tk : Nat), ItSt w S o T I ws 0 h → (∀ b o, b ≠ D → s.heap.get? b = some o → h.get? b = some o) →
      h.get? D = some { cls := .type "list", data := .seq #[] c₁ } → codeAny (model prog w) A (.builtin "list.extend.loop" ⟨[.ref D, .ref I, res], []⟩) R { s with heap := h, drawn := d, toks := tk } := by
    intro h c₁ tk hst hk hS₁
    refine codeAny_extend_loopS W.toS (by rw [sizeLine_eq]; omega) D hSf res ws.length 0 _ #[] c₁ rfl (Nat.zero_le _) hst hS₁ (ItemsOf.nil _) fun s' acc' c' hm hS' hacc => ?_
    rw [Moved.eq_with hm]
    refine hR s'.heap d s'.toks ws acc' c' hws (fun b o hb e => hm.heap b o (fun hmem => ?_) (hk b o hb e)) hS' ?_
    · rcases List.mem_cons.mp hmem with e' | hmem
      · exact hb e'
      · rw [List.mem_singleton.mp hmem, hIn] at e; cases e
    · refine List.ext_getElem? fun j => ?_
      rcases Nat.lt_or_ge j ws.length with hj | hj
      · have := hacc.2 j (acc'[j]'(by rw [hacc.1]; exact hj)) (by simp [hacc.1, hj])
        rw [this]; simp [hacc.1, hj]
      · rw [List.getElem?_eq_none hj, List.getElem?_eq_none (by rw [Array.length_toList, hacc.1]; exact hj)]
  have hD₁ := hk _ _ hD
  refine wpAny_bind (wpAny_holding (hint_set ⟨o, hk _ _ ho, Y.cls⟩ ?_))
  refine wpAny_ite_split (fun _ => ?_) (fun _ => wpAny_pure ⟨plainId_quiet PySem.F.plain_extend_loop _, key _ c₀ _ st (fun b o _ e => hk b o e) hD₁⟩)
  refine wpAny_bind (wpAny_rule ?_)
  refine wpAny_bind ?_
  show wpAny _ _ (updateSeq D (·.push .none) >>= fun _ => updateSeq D (·.pop)) _ _ _
  refine wpAny_bind (wpAny_updateSeq hD₁ rfl ?_)
  have hS₂ := Heap.get?_update_self (Obj.mapSeq (·.push Value.none)) hD₁ rfl
  refine wpAny_updateSeq (hz := by seq_fits) hS₂ rfl ?_
  have hS₃ := Heap.get?_update_self (Obj.mapSeq (·.pop)) hS₂ rfl
  refine wpAny_pure ⟨plainId_quiet PySem.F.plain_extend_loop _, key _ _ _ ?_ (fun b o hb e => ?_) hS₃⟩
  · refine W.frame 0 _ _ st fun b hb o e => ?_
    have hbS : b ≠ D := fun h => hSf (h ▸ hb)
    exact (Heap.get?_update_other _ _ (Ne.symm hbS)).trans ((Heap.get?_update_other _ _ (Ne.symm hbS)).trans e)
  · exact (Heap.get?_update_other _ _ (Ne.symm hb)).trans ((Heap.get?_update_other _ _ (Ne.symm hb)).trans (hk _ _ e))
theorem set_collect {R : List Value → Shared → Prop} (hh : A.handled = none) (ho : s.heap.get? S = some o) (Y : SetIs w o vs) (h1 : vs ≠ []) (h2 : vs.length ≤ 2)
    (h : ∀ (h' : Heap) d (tk : Nat) ws, (ws = vs ∨ ws = vs.reverse) → (∀ b o, s.heap.get? b = some o → h'.get? b = some o) → R ws { s with heap := h', drawn := d, toks := tk }) :
    wpAny (model prog w) A (collect (.ref S)) R E s := by
  have hSlt := Heap.lt_size ho
  unfold collect
  refine wpAny_bind (wpAny_runValue (codeAny_builtin entry_proto_collect' ?_))
  rw [Around.under_plainId PySem.F.plain_proto_collect _]
  show wpAny _ A.in1 (newList [] >>= fun l => again (.builtin "list.__iadd__" ⟨[l, .ref S], []⟩)) _ _ s
  refine wpAny_bind (wpAny_newObj_type ?_)
  refine wpAny_pure ⟨plainId_quiet PySem.F.plain_list_iadd _, codeAny_builtin entry_list_iadd' ?_⟩
  rw [Around.under_plainId PySem.F.plain_list_iadd _]
  have hS₁ : (s.heap.push { cls := .type "list", data := .seq ([] : List Value).toArray }).get? s.heap.objs.size = some { cls := .type "list", data := .seq #[] } := Heap.get?_push_size _ rfl
  show wpAny _ A.in1 (Builtin.List.listExtendWith (.ref s.heap.objs.size) (.ref S) (.ref s.heap.objs.size)) _ _ _
  have key := set_extend (prog := prog) (w := w) (A := A) (s := { s with heap := s.heap.push { cls := .type "list", data := .seq ([] : List Value).toArray } })
    (R := fun (q : Result) (s' : Shared) => ∃ (h' : Heap) (d : Drawn) (tk : Nat) (ws : List Value) (acc' : Array Value) (c' : Nat), q = .ok (.ret (.ref s.heap.objs.size)) ∧ s' = { s with heap := h', drawn := d, toks := tk } ∧ (ws = vs ∨ ws = vs.reverse) ∧
      (∀ b o, s.heap.get? b = some o → h'.get? b = some o) ∧ h'.get? s.heap.objs.size = some { cls := .type "list", dict := none, data := .seq acc' c', slots := #[] } ∧ acc'.toList = ws)
    hh (Heap.get?_push_of_some _ ho) Y h1 h2 s.heap.objs.size (Nat.ne_of_gt hSlt) (.ref s.heap.objs.size) 0 hS₁
    (fun h' d tk ws acc' c' hws hk hS' hacc => ⟨h', d, tk, ws, acc', c', rfl, rfl, hws, fun b o e => hk b o (Nat.ne_of_lt (Heap.lt_size e)) (Heap.get?_push_of_some _ e), hS', hacc⟩)
  refine wpAny_mono key (fun fin s' x => ?_) fun e s' x => ?_
  · cases fin with
    | done f =>
      obtain ⟨h', d, tk, ws, acc', c', e, rfl, hws, hk, hS', hacc⟩ := x
      cases e
      show wpAny _ A (load s.heap.objs.size >>= _) _ _ _
      refine wpAny_bind (wpAny_load hS' ?_)
      subst hacc
      exact wpAny_pure (h h' d tk _ hws hk)
    | again c₁ =>
      refine ⟨x.1, codeAny_mono x.2 fun q s₂ y => ?_⟩
      obtain ⟨h', d, tk, ws, acc', c', rfl, rfl, hws, hk, hS', hacc⟩ := y
      show wpAny _ A (load s.heap.objs.size >>= _) _ _ _
      refine wpAny_bind (wpAny_load hS' ?_)
      subst hacc
      exact wpAny_pure (h h' d tk _ hws hk)
  · obtain ⟨_, _, _, _, _, _, e', _⟩ := x
    cases e'
theorem set_sorted {Q : Value → Shared → Prop} (hh : A.handled = none) (F : Fr h₀ L s.heap m) (N : News h₀ L s.heap news) (ho : s.heap.get? S = some o) (Y : SetIs w o vs) (h1 : vs ≠ []) (h2 : vs.length ≤ 2)
    (h : ∀ (D : Addr) (h' : Heap) d (tk : Nat) (ws : List Value), (ws = vs ∨ ws = vs.reverse) → Fr h₀ L h' m → News h₀ L h' ((D, listOf ws.toArray 0) :: news) → (∀ q ∈ news, q.1 < D) →
      wpAny (model prog w) A.in1 (call (.builtin "list.sort") [.ref D]) (fun _ s' => Q (.ref D) s') E { s with heap := h', drawn := d, toks := tk }) :
    wpAny (model prog w) A (call (.builtin "sorted") [.ref S]) Q E s := by
  refine call_function_entry kind_sorted plain_sorted entry_sorted (args_sorted1 _) ?_
  unfold Builtin.«sorted»
  refine wpAny_bind (m := checkCount "sorted" 1 1 _) (wpAny_pure ?_)
  refine wpAny_bind (set_collect (A := A.in1) hh ho Y h1 h2 fun h' d tk ws hws hk => ?_)
  have hl : ws.length ≤ 2 := by rcases hws with rfl | rfl <;> simpa using h2
  refine wpAny_bind (wpAny_newList ?_ (by rw [sizeLine_eq]; omega))
  have hg := h h'.objs.size (h'.push { cls := .type "list", data := .seq ws.toArray }) d tk ws hws ((F.keeps hk).push _) (News.push (F.keeps hk) (fun p hp => ⟨hk _ _ (N p hp).1, (N p hp).2⟩) _ rfl)
    (fun q hq => Heap.lt_size (hk _ _ (N q hq).1))
  refine wpAny_bind (wpAny_holding (wpAny_mono hg (fun _ s' x => ?_) fun _ _ e => e))
  exact wpAny_pure ⟨_, rfl, x⟩
end
end Mine
end SL25
/-! L26 -/
section SL26
open PySem.Spec PySem.Calls
namespace Mine
section
variable {prog : Program} {w : World} {A : Around} {E : Value → Shared → Prop} {s : Shared} {D a1 a2 : Addr} {h₀ : Heap} {L : Addr} {m : Str → Option Value} {news : List (Addr × Obj)}
theorem sort_two {x1 r1 x2 r2 : Str} {k1 k1' k2 k2' : Tok} {n n1 n2 : Nat} {Q : Value → Shared → Prop} (F : Fr h₀ L s.heap m) (N : News h₀ L s.heap ((D, listOf #[.ref a1, .ref a2] n) :: news)) (hD : ∀ p ∈ news, p.1 ≠ D)
    (m1 : (a1, tupO [.str x1 k1, .str r1 k1'] n1) ∈ news) (m2 : (a2, tupO [.str x2 k2, .str r2 k2'] n2) ∈ news) (hne : x1 ≠ x2)
    (h : ∀ (h' : Heap) (tk : Nat) (c : Nat), Fr h₀ L h' m → News h₀ L h' ((D, listOf (if x2.cps.toList < x1.cps.toList then #[.ref a2, .ref a1] else #[.ref a1, .ref a2]) c) :: news) → Q .none { s with heap := h', toks := tk }) :
    wpAny (model prog w) A (call (.builtin "list.sort") [.ref D]) Q E s := by
  refine kat_lsort (vs := [.ref a1, .ref a2]) F N (g := fun o => (D, o) :: news) (.head hD) rfl (Nat.le_of_ble_eq_true rfl) (Nat.le_of_ble_eq_true rfl) fun e1 h' F' N' => ?_
  refine kat_kind (fs := [.str x1 k1, .str x2 k2]) (T := .type "str") ?t (Nat.le_of_ble_eq_true rfl) ?T rfl ?_
  case t => exact .cons (N' _ (.tail _ m1)).1 rfl rfl rfl (.cons (N' _ (.tail _ m2)).1 rfl rfl rfl .nil)
  case T => kas_types
  kat_step
  refine kat_lt (N' _ (.tail _ m2)).1 rfl (N' _ (.tail _ m1)).1 rfl ?_
  kat_pair
  refine kat_cons ?_
  refine wpAny_eqBool_str ?_
  rw [decide_eq_false (Ne.symm hne)]
  refine kat_no ?_
  kat_flag
  refine oneLt_str ?_
  refine kas_split (fun hk => ?_) (fun hk => ?_)
  · rw [if_pos (of_decide_eq_true hk)] at h
    unfold KasNext
    repeat kat_step
    refine KasFin.intro (g := fun o => (D, o) :: news) F' N' (.head hD) fun g c F2 N2 => ?_
    exact h g _ c F2 N2
  · rw [if_neg (of_decide_eq_false hk)] at h
    unfold KasNext
    repeat kat_step
    refine KasFin.intro (g := fun o => (D, o) :: news) F' N' (.head hD) fun g c F2 N2 => ?_
    exact h g _ c F2 N2
theorem sort_one {n : Nat} {v : Value} {Q : Value → Shared → Prop} (F : Fr h₀ L s.heap m) (N : News h₀ L s.heap ((D, listOf #[v] n) :: news)) (hD : ∀ p ∈ news, p.1 ≠ D)
    (h : ∀ (h' : Heap) (tk : Nat) (c : Nat), Fr h₀ L h' m → News h₀ L h' ((D, listOf #[v] c) :: news) → Q .none { s with heap := h', toks := tk }) :
    wpAny (model prog w) A (call (.builtin "list.sort") [.ref D]) Q E s := by
  have nz := N _ (.head _)
  have ho : s.heap.get? D = some (seqObj "list" #[v] n) := nz.1
  have N₀ : News h₀ L s.heap news := fun p hp => N p (.tail _ hp)
  refine wpAny_call_entry slot_list_sort ⟨_, nz.1, rfl⟩ entry_list_sort ?_ (args_list_sort _)
  have s1 := Heap.SameBut.update s.heap D (Obj.mapSeq fun _ => (#[] : Array Value))
  obtain ⟨e1, ho1⟩ : ∃ e1, (s.heap.update D (Obj.mapSeq fun _ => (#[] : Array Value))).get? D = some (seqObj "list" #[] e1) := ⟨_, get?_update_seq ho fun _ => #[]⟩
  have F3 := ((kas_fr F s1 nz.2.1 nz.2.2).push (seqObj "tuple" #[v] 0)).push (seqObj "list" #[] 0)
  have N2 : News h₀ L (((s.heap.update D (Obj.mapSeq fun _ => (#[] : Array Value))).push (seqObj "tuple" #[v] 0)).push (seqObj "list" #[] 0)) news :=
    (kas_news N₀ s1 hD).grown fun b x e => Heap.get?_push_of_some _ (Heap.get?_push_of_some _ e)
  have ho3 : (((s.heap.update D (Obj.mapSeq fun _ => (#[] : Array Value))).push (seqObj "tuple" #[v] 0)).push (seqObj "list" #[] 0)).get? D = some (seqObj "list" #[] e1) := Heap.get?_push_of_some _ (Heap.get?_push_of_some _ ho1)
  rw [list_sort_plain]
  refine wpAny_bind (listItems_at ho rfl ?_)
  refine wpAny_bind (listUpdate_at ho rfl ?_ (by rw [sizeLine_eq]; exact Nat.le_of_ble_eq_true rfl) (Nat.zero_le _))
  refine wpAny_bind (seqEpoch_at ho1 rfl ?_)
  refine wpAny_bind (wpAny_newTuple ?_ (by show 1 ≤ _; rw [sizeLine_eq]; decide))
  refine wpAny_bind (wpAny_newList ?_ (Nat.zero_le _))
  refine wpAny_holding ?_
  dsimp only
  have hn2 : (#[v] : Array Value).size < 2 := Nat.le_of_ble_eq_true rfl
  rw [if_pos hn2, if_pos hn2]
  refine wpAny_bind (wpAny_pure ?_)
  refine wpAny_bind (wpAny_pure ?_)
  refine wpAny_bind (seqEpoch_at ho3 rfl ?_)
  have harr : Array.map (fun x => x.snd) (arrOf (SortSt.mk' general' ((#[v] : Array Value).zip #[v]) #[] 7 none)) = #[v] := by
    show Array.map (fun x => x.snd) ((#[v] : Array Value).zip #[v]) = #[v]
    simp
  dsimp only
  rw [harr]
  refine wpAny_bind (listUpdate_at ho3 rfl ?_ (Nat.zero_le _) (by rw [sizeLine_eq]; exact Nat.le_of_ble_eq_true rfl))
  show wpAny _ _ (if (e1 != e1) = true then _ else _) _ _ _
  rw [if_neg (by simp)]
  have s2 := Heap.SameBut.update (((s.heap.update D (Obj.mapSeq fun _ => (#[] : Array Value))).push (seqObj "tuple" #[v] 0)).push (seqObj "list" #[] 0)) D (Obj.mapSeq fun _ => #[v])
  obtain ⟨c2, hc2⟩ : ∃ c2, ((((s.heap.update D (Obj.mapSeq fun _ => (#[] : Array Value))).push (seqObj "tuple" #[v] 0)).push (seqObj "list" #[] 0)).update D (Obj.mapSeq fun _ => #[v])).get? D = some (seqObj "list" #[v] c2) := ⟨_, get?_update_seq ho3 fun _ => #[v]⟩
  refine wpAny_pure ⟨_, rfl, h _ _ c2 (kas_fr F3 s2 nz.2.1 nz.2.2) ?_⟩
  have hN3 : News h₀ L (((s.heap.update D (Obj.mapSeq fun _ => (#[] : Array Value))).push (seqObj "tuple" #[v] 0)).push (seqObj "list" #[] 0)) ([] ++ (D, seqObj "list" #[] e1) :: news) := fun p hp => by
    rcases List.mem_cons.mp hp with rfl | hp
    · exact ⟨ho3, nz.2.1, nz.2.2⟩
    · exact N2 p hp
  exact news_set (pre := []) hN3 (fun _ h => nomatch h) hD s2 hc2
end
end Mine
end SL26
/-! L27 -/
section SL27
open PySem.Spec PySem.Calls
namespace Mine
section
variable {prog : Program} {w : World} {A : Around} {E : Value → Shared → Prop} {s : Shared} {S a1 a2 : Addr} {o : Obj} {h₀ : Heap} {L : Addr} {m : Str → Option Value} {all : List (Addr × Obj)}
/-- sorted of a set of two pairs: the lesser is a1's -/
theorem sorted_pair {x1 r1 x2 r2 : Str} {k1 k1' k2 k2' : Tok} {n1 n2 : Nat} {vs : List Value} {Q : Value → Shared → Prop} (hh : A.handled = none) (F : Fr h₀ L s.heap m) (N : News h₀ L s.heap all) (hS : (S, o) ∈ all) (Y : SetIs w o vs) (hvs : vs = [Value.ref a1, Value.ref a2] ∨ vs = [Value.ref a2, Value.ref a1])
    (m1 : (a1, tupO [.str x1 k1, .str r1 k1'] n1) ∈ all) (m2 : (a2, tupO [.str x2 k2, .str r2 k2'] n2) ∈ all) (hlt : x1.cps.toList < x2.cps.toList)
    (h : ∀ D h' d tk c, Fr h₀ L h' m → News h₀ L h' ((D, listOf [Value.ref a1, Value.ref a2].toArray c) :: all) → (∀ q ∈ all, q.1 < D) → Q (.ref D) { s with heap := h', drawn := d, toks := tk }) :
    wpAny (model prog w) A (call (.builtin "sorted") [.ref S]) Q E s := by
  have hne : x1 ≠ x2 := fun e => by rw [e] at hlt; exact absurd hlt (List.lt_irrefl _)
  have hng : ¬ x2.cps.toList < x1.cps.toList := fun e => List.lt_asymm hlt e
  refine set_sorted hh F N (N _ hS).1 Y (by rcases hvs with rfl | rfl <;> simp) (by rcases hvs with rfl | rfl <;> simp) fun D h' d tk ws hws F' N' o1 => ?_
  have hD : ∀ p ∈ all, p.1 ≠ D := fun p hp => Nat.ne_of_lt (o1 p hp)
  have hws' : ws = [Value.ref a1, Value.ref a2] ∨ ws = [Value.ref a2, Value.ref a1] := by
    rcases hws with rfl | rfl
    · exact hvs
    · rcases hvs with rfl | rfl
      · exact .inr rfl
      · exact .inl rfl
  rcases hws' with rfl | rfl
  · refine sort_two (s := { s with heap := h', drawn := d, toks := tk }) F' N' hD m1 m2 hne fun g tk' c F2 N2 => ?_
    rw [if_neg hng] at N2
    exact h D g d tk' c F2 N2 o1
  · refine sort_two (s := { s with heap := h', drawn := d, toks := tk }) F' N' hD m2 m1 (Ne.symm hne) fun g tk' c F2 N2 => ?_
    rw [if_pos hlt] at N2
    exact h D g d tk' c F2 N2 o1
theorem sorted_single {v : Value} {vs : List Value} {Q : Value → Shared → Prop} (hh : A.handled = none) (F : Fr h₀ L s.heap m) (N : News h₀ L s.heap all) (hS : (S, o) ∈ all) (Y : SetIs w o vs) (hvs : vs = [v])
    (h : ∀ D h' d tk c, Fr h₀ L h' m → News h₀ L h' ((D, listOf [v].toArray c) :: all) → (∀ q ∈ all, q.1 < D) → Q (.ref D) { s with heap := h', drawn := d, toks := tk }) :
    wpAny (model prog w) A (call (.builtin "sorted") [.ref S]) Q E s := by
  subst hvs
  refine set_sorted hh F N (N _ hS).1 Y (by simp) (by simp) fun D h' d tk ws hws F' N' o1 => ?_
  have hD : ∀ p ∈ all, p.1 ≠ D := fun p hp => Nat.ne_of_lt (o1 p hp)
  obtain rfl : ws = [v] := by rcases hws with rfl | rfl <;> rfl
  exact sort_one (s := { s with heap := h', drawn := d, toks := tk }) F' N' hD fun g tk' c F2 N2 => h D g d tk' c F2 N2 o1
end
end Mine
end SL27
/-! P14 -/
section SP14
open PySem.Spec PySem.Calls
namespace Mine
noncomputable def Fit : Option (List (Str × Str)) → Prop
  | none => True
  | some found => found = [pc] ∨ ∃ x, found = [pc, (x, Str.ofString "'c")] ∧ (Str.ofString "'c").cps.toList < x.cps.toList
noncomputable def ToldOut (all : List (Addr × Obj)) (r : Value) : Option (List (Str × Str)) → Prop
  | none => ∃ k, r = .str (Str.ofString "refused") k
  | some found => ∃ l vs n, r = .ref l ∧ (l, listOf vs.toArray n) ∈ all ∧ PairAll all vs found
noncomputable def TellsT (prog : Program) (w : World) (K : Frag) (p : Program) (loose : List Str) (mean : ExcName → Option Value) (mg mb : Str → Option Value) (d : Nat) (t0 : Ty) (res : Option (List (Str × Str))) : Prop :=
  ∀ (un : Nat) (gd : Option (List Code)) (cn : Str) (cs : Scope) (a : Addr) (ccd : Value) (A₀ : Around) (base h₀ : Heap) (L : Addr) (m : Str → Option Value) (ext news : List (Addr × Obj)) (s0 s1 : Option Addr) (s : Shared) (vt : Value) (k : Tok)
    (Q E : Value → Shared → Prop),
    Below A₀ base [] h₀ → HypR base → HypF base → K.In base → Top p loose mean mg mb base → Fr h₀ L s.heap m → K.In h₀ → News h₀ L s.heap ((101, tabOf 72 4 s1) :: (80, tabOf 47 4 s0) :: (ext ++ news)) → (∀ p ∈ ext ++ news, p.1 ≠ 101) → (∀ p ∈ ext ++ news, p.1 ≠ 80) → Top p loose mean mg mb h₀ → cs.kind = .function →
    TyIn news vt t0 → TabOk q80 (ext ++ news) s0 → TabOk q101 (ext ++ news) s1 → t0.ok → d ≤ 3 → (∃ k, RunN (inn d) k [] [t0] [] 0 res) → Fit res → un + 3000 < cLine →
    (∀ r s0' s1' tl h' dr tk', Fr h₀ L h' m → News h₀ L h' ((101, tabOf 72 4 s1') :: (80, tabOf 47 4 s0') :: (ext ++ (news ++ tl))) → (∀ q ∈ (101, tabOf 72 4 s1) :: (80, tabOf 47 4 s0) :: (ext ++ news), ∀ p ∈ tl, q.1 < p.1) → TabOk q80 (ext ++ (news ++ tl)) s0' → TabOk q101 (ext ++ (news ++ tl)) s1' → ToldOut (news ++ tl) r res → Q r { s with heap := h', drawn := dr, toks := tk' }) →
    wpAny (model prog w) (ktrTop 302 un gd cn cs L a ccd [] []) (call (.ref 215) [vt, .int (d : Int) k]) Q E s
set_option hygiene false in
local macro_rules | `(tactic| walk_at "execs cons") => `(tactic| (k_here; (try k_gentoks); (try k_fold); (with_reducible refine execsN (s := s) ?_)))
local macro_rules | `(tactic| walk_at "m:mem") => `(tactic| first | assumption | exact List.Mem.head _ | (with_reducible refine memTail ?_; walk_at "m:mem") | (with_reducible refine memR ?_; walk_at "m:mem") | (with_reducible refine memL ?_; walk_at "m:mem"))
local macro_rules | `(tactic| k_mem) => `(tactic| walk_at "m:mem")
local macro_rules | `(tactic| walk_at "call ref") => `(tactic| (k_here; refine Halt.go ?_))
local macro_rules | `(tactic| walk_at "call type:set") => `(tactic| (k_here; refine Halt.go ?_))
local macro_rules | `(tactic| walk_at "call builtin:sorted") => `(tactic| (k_here; refine Halt.go ?_))
local macro_rules | `(tactic| walk_at "m:el") => `(tactic| with_reducible first | exact memHead | (refine memTail ?_; walk_at "m:el") | (refine memR ?_; walk_at "m:el") | (refine memL ?_; walk_at "m:el"))
local macro_rules | `(tactic| walk_at "m:in") => `(tactic| with_reducible first | assumption | exact subRefl | exact subNil | (refine subCons ?_ ?_; (walk_at "m:el"); (walk_at "m:in")) | (refine subApp ?_ ?_; (walk_at "m:in"); (walk_at "m:in")) | (refine subTail ?_; walk_at "m:in") | (refine subR ?_; walk_at "m:in") | (refine subL ?_; walk_at "m:in"))
theorem tellsI_use {prog : Program} {w : World} {K : Frag} {p : Program} {loose : List Str} {mean : ExcName → Option Value} {mg mb : Str → Option Value} {inner t0 : Ty} {res : Option (List (Str × Str))}
    {dp un : Nat} {gd : Option (List Code)} {cn : Str} {cs : Scope} {a : Addr} {ccd : Value} {cl : List (Str × Addr)} {outer : List Env} {A₀ : Around} {base h₀ : Heap} {L : Addr} {m : Str → Option Value} {all : List (Addr × Obj)} {s0 s1 : Option Addr} {s : Shared} {vt vx : Value}
    {Q E : Value → Shared → Prop} (ext news : List (Addr × Obj)) (B : Below A₀ base outer h₀) (F : Fr h₀ L s.heap m) (X : K.In h₀) (N : News h₀ L s.heap all) (T : Top p loose mean mg mb h₀) (hk : cs.kind = .function) (C : TellsI prog w K p loose mean mg mb inner t0 res) (H0 : HypR base) (H1 : HypF base)
    (hs : ∀ p ∈ (101, tabOf 72 4 s1) :: (80, tabOf 47 4 s0) :: (ext ++ news), p ∈ all) (o101 : ∀ p ∈ ext ++ news, p.1 ≠ 101) (o80 : ∀ p ∈ ext ++ news, p.1 ≠ 80) (hT : TyIn news vt t0) (hW : WorldIn w news vx inner) (T0 : TabOk q80 (ext ++ news) s0) (T1 : TabOk q101 (ext ++ news) s1)
    (ok : t0.ok) (oki : inner.ok) (run : ∃ k, RunN inner k [] [t0] [] 0 res) (hin : inner.depth ≤ 60) (hd : dp + 300 < recursionLimit) (hu : un + 2400 < cLine)
    (ret : ∀ found l n vs s0' s1' tl h' tk', res = some found → Fr h₀ L h' m → News h₀ L h' ((l, listOf vs.toArray n) :: (101, tabOf 72 4 s1') :: (80, tabOf 47 4 s0') :: (ext ++ (news ++ tl))) → PairAll (news ++ tl) vs found → TabOk q80 (ext ++ (news ++ tl)) s0' → TabOk q101 (ext ++ (news ++ tl)) s1' →
      (∀ q ∈ (101, tabOf 72 4 s1) :: (80, tabOf 47 4 s0) :: (ext ++ news), ∀ p ∈ (l, listOf vs.toArray n) :: tl, q.1 < p.1) → Q (.ref l) { s with heap := h', toks := tk' })
    (bad : ∀ e t vs G s0' s1' tl h' tk', res = none → Fr h₀ L G m → RaisedS base G (envX cn cs L a ccd cl :: outer) e (.ref 52) t vs ((101, tabOf 72 4 s1') :: (80, tabOf 47 4 s0') :: (ext ++ (news ++ tl))) h' → G.UpToSlots h' → TabOk q80 (ext ++ (news ++ tl)) s0' → TabOk q101 (ext ++ (news ++ tl)) s1' → (∀ q ∈ (101, tabOf 72 4 s1) :: (80, tabOf 47 4 s0) :: (ext ++ news), ∀ p ∈ tl, q.1 < p.1) → E (.ref e) { s with heap := h', toks := tk' }) :
    wpAny (model prog w) (ktrTop dp un gd cn cs L a ccd cl outer) (call (.ref 114) [vt, vx]) Q E s :=
  C _ _ _ _ _ _ _ _ _ _ _ _ _ _ ext news s0 s1 _ _ _ _ _ B H0 H1 F X (nsub N hs) o101 o80 T hk hT hW T0 T1 ok oki run hin hd hu ret bad
theorem ordBad {X tlW tl : List (Addr × Obj)} (oW : ∀ q ∈ X, ∀ p ∈ tlW, q.1 < p.1) (oI : ∀ q ∈ X, ∀ p ∈ tl, q.1 < p.1) : ∀ q ∈ X, ∀ p ∈ tlW ++ tl, q.1 < p.1 := fun q hq p hp =>
  (List.mem_append.mp hp).elim (oW q hq p) (oI q hq p)
theorem oldOrd {A B T1 T0 : Obj} {X : List (Addr × Obj)} {D : Addr} (h : ∀ q ∈ (101, T1) :: (80, T0) :: X, q.1 < D) : ∀ q ∈ (101, A) :: (80, B) :: X, q.1 < D := fun q hq => by
  rcases List.mem_cons.mp hq with rfl | hq
  · exact h (101, T1) (.head _)
  · rcases List.mem_cons.mp hq with rfl | hq
    · exact h (80, T0) (.tail _ (.head _))
    · exact h q (.tail _ (.tail _ hq))
theorem ordTold {X tlW tl : List (Addr × Obj)} {q1 qD : Addr × Obj} (oW : ∀ q ∈ X, ∀ p ∈ tlW, q.1 < p.1) (oI : ∀ q ∈ X, ∀ p ∈ q1 :: tl, q.1 < p.1) (oD : ∀ q ∈ X, q.1 < qD.1) : ∀ q ∈ X, ∀ p ∈ tlW ++ (tl ++ [qD]), q.1 < p.1 := fun q hq p hp => by
  rcases List.mem_append.mp hp with hp | hp
  · exact oW q hq p hp
  · rcases List.mem_append.mp hp with hp | hp
    · exact oI q hq p (.tail _ hp)
    · rw [List.mem_singleton.mp hp]; exact oD q hq
set_option maxHeartbeats 1500000 in
theorem told_tells (w : World) (p : Program) (loose : List Str) (mean : ExcName → Option Value) (mg mb : Str → Option Value) (d : Nat) (t0 : Ty) (res : Option (List (Str × Str))) :
    TellsT PySem.Challenge.rw_xw0159_01.row.prog w (hd.heap_1 w.params) p loose mean mg mb d t0 res := by
  k_fill
  unfold TellsT
  intro un gd cn cs a ccd A₀ base h₀ L m ext news s0 s1 s vt k Q E B HR HF XB TB F X N o101 o80 T hk hT hT0 hT1 hok hd3 hrun hfit hun hret
  have hc := cLine_is
  refine wpAny_call ?_
  k_dflt (refine' code_defS0 ?k1 ?k2 ?k3 ?k4 ?k5 ?kA ?k6 ?k7 ?k8 ?k9 ?kB ?_ ?cK ?c2 ?c3 ?c4 ?c5; (case kA => exact rfl); (case k2 => k_asm); (case k1 => k_asm); (case k3 => k_asm); (case k4 => k_asm); (case k5 => k_asm); (case k6 => k_is); (case k7 => k_is); (case k8 => k_room); (case k9 => exact BindsTo.of_eq rfl); (case kB => exact locs rfl); (case cK => assumption); (case c2 => exact rfl); (case c3 => exact rfl); (case c4 => exact rfl); (case c5 => decide); k_whole; intro g' L' h' FG' F' N' B' X' T' D'; (try dsimp only); (try k_lift B'); (try k_fold))
  (try (((show let Mo0 := model _ _; let en0 : Env := _; let Ar0 := Around.deeper _ en0; wpAny Mo0 Ar0 (execs _ en0) _ _ _); intro Mo0 en0 Ar0; skip)))
  k_steps
  refine Halt.mk ?_
  k_dflt (refine' tellsXd_use (c := worldT w) (d := d) [] ?k1 ?k2 ?k3 ?k4 ?k5 ?kK (world_tells w p loose mean mg mb _) ?hs ?kR ?kd ?ku ?_)
  (((case k1 => k_asm); (case k2 => k_asm); (case k3 => k_asm); (case k4 => k_asm); (case k5 => k_asm); (case kK => first | exact rfl | assumption)))
  case hs => walk_at "m:in"
  case kd => (show 302 + 1 + 20 < recursionLimit; decide)
  case ku => (dsimp only [ktrTop, worldT, Around.deeper] at hun ⊢; omega)
  case kR => exact ⟨hd3, ⟨(101, _), memL (.head _), (by show 1 < 101; decide)⟩, _, rfl⟩
  intro rW tlW hW tkW FW NW oW outW
  simp only [List.cons_append, List.append_assoc] at NW
  replace outW : WorldIn w tlW rW (inn d) := outW
  k_steps
  refine Halt.mk ?_
  have o101' : ∀ p ∈ ext ++ (news ++ tlW), p.1 ≠ 101 := by
    intro p hp
    rw [← List.append_assoc] at hp
    rcases List.mem_append.mp hp with hp | hp
    · exact o101 p hp
    · exact Nat.ne_of_gt (oW (101, tabOf 72 4 s1) (.head _) p hp)
  have o80' : ∀ p ∈ ext ++ (news ++ tlW), p.1 ≠ 80 := by
    intro p hp
    rw [← List.append_assoc] at hp
    rcases List.mem_append.mp hp with hp | hp
    · exact o80 p hp
    · exact Nat.ne_of_gt (oW (80, tabOf 47 4 s0) (.tail _ (.head _)) p hp)
  k_dflt (refine' tellsI_use (s0 := s0) (s1 := s1) ext (news ++ tlW) ?k1 ?k2 ?k3 ?k4 ?k5 ?kK (implied_tells w p loose mean mg mb (inn d) t0 res) HR HF ?hs o101' o80' (hT.mono fun p hp => memL hp) (outW.mono fun p hp => memR hp) (hT0.mono fun p hp => ?z0) (hT1.mono fun p hp => ?z1) hok (inn_ok d) hrun (inn_depth d) ?kd ?ku ?_ ?_)
  (((case k1 => k_asm); (case k2 => k_asm); (case k3 => k_asm); (case k4 => k_asm); (case k5 => k_asm); (case kK => first | exact rfl | assumption)))
  case hs => walk_at "m:in"
  case z0 => rw [← List.append_assoc]; exact memL hp
  case z1 => rw [← List.append_assoc]; exact memL hp
  case kd => (show 302 + 1 + 300 < recursionLimit; decide)
  case ku => (dsimp only [ktrTop, Around.deeper] at hun ⊢; omega)
  · intro found l n vs s0' s1' tl hI tkI hres FI NI hP hTI0 hTI1 oI
    subst hres
    k_steps
    refine Halt.mk ?_
    have hoall : ∀ q ∈ (101, tabOf 72 4 s1) :: (80, tabOf 47 4 s0) :: (ext ++ news), ∀ p ∈ (l, listOf vs.toArray n) :: tl, q.1 < p.1 := fun q hq => oI q (by
      rcases List.mem_cons.mp hq with rfl | hq
      · exact .head _
      · rcases List.mem_cons.mp hq with rfl | hq
        · exact .tail _ (.head _)
        · refine .tail _ (.tail _ ?_)
          rw [← List.append_assoc]; exact memL hq)
    rcases hfit with rfl | ⟨x, rfl, hlt⟩
    · cases hP
      rename_i a1 k1 k1' n1 vs1 hm1 hP1
      cases hP1
      k_dflt (refine set_one (w := w) (by k_asm) (by k_asm) (by k_mem) (a1 := a1) (x1 := Str.ofString "'c") (r1 := Str.ofString "'c") (k1 := k1) (k1' := k1') (n1 := n1) (memOf (by walk_at "m:in") hm1) (by rfl) ?hu ?_)
      case hu => (dsimp only [Ar0, ktrTop, Around.deeper] at hun ⊢; omega)
      intro S oS hS tkS FS NS YS oSl
      k_steps
      refine Halt.mk ?_
      k_dflt (refine sorted_single (by rfl) (by k_asm) (by k_asm) (S := S) (o := oS) (by k_mem) YS rfl ?_)
      intro D hD dr tkD c FD ND oD
      k_steps
      rename News _ _ _ _ => NE
      exact hret _ s0' s1' (tlW ++ (tl ++ [(D, listOf #[Value.ref a1] c)])) _ _ _ (by assumption) (nsub NE (by (refine subCons ?_ ?_; rotate_left; refine subCons ?_ ?_; rotate_left; refine subApp ?_ ?_; rotate_left; refine subApp ?_ ?_; rotate_left; refine subApp ?_ ?_; rotate_left; refine subApp ?_ ?_; rotate_left); all_goals (first | walk_at "m:in" | walk_at "m:el"))) (ordTold oW hoall (oldOrd (T1 := tabOf 72 4 s1') (T0 := tabOf 47 4 s0') fun q hq => oD q (memOf (by walk_at "m:in") hq)))
        (hTI0.mono (by rw [List.append_assoc]; walk_at "m:in")) (hTI1.mono (by rw [List.append_assoc]; walk_at "m:in")) ⟨D, [.ref a1], c, rfl, memR (memR (memR (.head _))), .cons (memOf (by walk_at "m:in") hm1) .nil⟩
    · cases hP
      rename_i a1 k1 k1' n1 vs1 hm1 hP1
      cases hP1
      rename_i a2 k2 k2' n2 vs2 hm2 hP2
      cases hP2
      have hne : [Str.ofString "'c", Str.ofString "'c"] ≠ [x, Str.ofString "'c"] := fun e => by
        have e1 : Str.ofString "'c" = x := (List.cons.inj e).1
        rw [← e1] at hlt
        exact absurd hlt (List.lt_irrefl _)
      k_dflt (refine set_two (w := w) (by k_asm) (by k_asm) (by k_mem) (a1 := a1) (x1 := Str.ofString "'c") (r1 := Str.ofString "'c") (k1 := k1) (k1' := k1') (n1 := n1) (a2 := a2) (x2 := x) (r2 := Str.ofString "'c") (k2 := k2) (k2' := k2') (n2 := n2) (memOf (by walk_at "m:in") hm1) (memOf (by walk_at "m:in") hm2) hne (by rfl) ?hu ?_)
      case hu => (dsimp only [Ar0, ktrTop, Around.deeper] at hun ⊢; omega)
      intro S oS hS tkS ws hws FS NS YS oSl
      k_steps
      refine Halt.mk ?_
      k_dflt (refine sorted_pair (by rfl) (by k_asm) (by k_asm) (S := S) (o := oS) (by k_mem) YS hws (a1 := a1) (x1 := Str.ofString "'c") (r1 := Str.ofString "'c") (k1 := k1) (k1' := k1') (n1 := n1) (a2 := a2) (x2 := x) (r2 := Str.ofString "'c") (k2 := k2) (k2' := k2') (n2 := n2) (memOf (by walk_at "m:in") hm1) (memOf (by walk_at "m:in") hm2) hlt ?_)
      intro D hD dr tkD c FD ND oD
      k_steps
      rename News _ _ _ _ => NE
      exact hret _ s0' s1' (tlW ++ (tl ++ [(D, listOf #[Value.ref a1, Value.ref a2] c)])) _ _ _ (by assumption) (nsub NE (by (refine subCons ?_ ?_; rotate_left; refine subCons ?_ ?_; rotate_left; refine subApp ?_ ?_; rotate_left; refine subApp ?_ ?_; rotate_left; refine subApp ?_ ?_; rotate_left; refine subApp ?_ ?_; rotate_left); all_goals (first | walk_at "m:in" | walk_at "m:el"))) (ordTold oW hoall (oldOrd (T1 := tabOf 72 4 s1') (T0 := tabOf 47 4 s0') fun q hq => oD q (memOf (by walk_at "m:in") hq)))
        (hTI0.mono (by rw [List.append_assoc]; walk_at "m:in")) (hTI1.mono (by rw [List.append_assoc]; walk_at "m:in")) ⟨D, [.ref a1, .ref a2], c, rfl, memR (memR (memR (.head _))), .cons (memOf (by walk_at "m:in") hm1) (.cons (memOf (by walk_at "m:in") hm2) .nil)⟩
  · intro e t vs G s0' s1' tl hI tkI hres FG RI UI hTI0 hTI1 oB
    subst hres
    k_steps
    rename News _ _ _ _ => NE
    exact hret _ s0' s1' (tlW ++ tl) _ _ _ (by assumption) (nsub NE (by (refine subCons ?_ ?_; rotate_left; refine subCons ?_ ?_; rotate_left; refine subApp ?_ ?_; rotate_left; refine subApp ?_ ?_; rotate_left; refine subApp ?_ ?_; rotate_left); all_goals (first | walk_at "m:in" | walk_at "m:el"))) (ordBad oW fun q hq => oB q (by
      rcases List.mem_cons.mp hq with rfl | hq
      · exact .head _
      · rcases List.mem_cons.mp hq with rfl | hq
        · exact .tail _ (.head _)
        · refine .tail _ (.tail _ ?_)
          rw [← List.append_assoc]; exact memL hq))
      (by rw [List.append_assoc] at hTI0; exact hTI0) (by rw [List.append_assoc] at hTI1; exact hTI1) ⟨_, rfl⟩
end Mine
end SP14
/-! P15 -/
section SP15
open PySem.Spec PySem.Calls
namespace Mine
/-! the law's own draws -/
structure SrcD where
  src : Addr
  x : Int
  y : Int
  k : Tok
  k' : Tok
  n : Nat
structure SrcD.ok (d : SrcD) : Prop where
  x0 : 0 ≤ d.x
  y0 : 0 ≤ d.y
  y1 : d.y < 2147483647
noncomputable abbrev SrcD.obj (d : SrcD) : Addr × Obj := (d.src, listOf #[.int d.x d.k, .int d.y d.k'] d.n)
noncomputable def SrcPost (src : Addr) (l' : List (Addr × Obj)) : Prop := ∃ d' : SrcD, d'.ok ∧ d'.src = src ∧ l' = [d'.obj]
noncomputable abbrev takeT : ToldM (SrcD × Int) where
  Rel := fun _ _ vs d => d.1.ok ∧ 1 ≤ d.2 ∧ d.2 ≤ 8 ∧ ∃ kt, vs = [.ref d.1.src, .int d.2 kt]
  Pre := fun d => [d.1.obj]
  Post := fun d l' => SrcPost d.1.src l'
  size := fun _ => 1
  Out := fun _ r d => ∃ z k, r = .int z k ∧ 0 ≤ z ∧ z < d.2
local macro_rules | `(tactic| walk_at "m:mem") => `(tactic| first | assumption | exact List.Mem.head _ | (with_reducible refine memTail ?_; walk_at "m:mem") | (with_reducible refine memR ?_; walk_at "m:mem") | (with_reducible refine memL ?_; walk_at "m:mem"))
local macro_rules | `(tactic| k_mem) => `(tactic| walk_at "m:mem")
theorem take_end {h₀ h : Heap} {L src : Addr} {a b : Int} {ka kb : Tok} {n : Nat} {ext news : List (Addr × Obj)} (N : News h₀ L h ((src, listOf #[.int a ka, .int b kb] n) :: (ext ++ news))) : News h₀ L h ([(SrcD.mk src a b ka kb n).obj] ++ (ext ++ (news ++ []))) := by
  rw [List.append_nil]; exact N
theorem mulP (x z : Int) (b : Int) : IntMulOk ([x, z.fmod 2147483647].getD (Int.toNat 1) 0) b := by
  have h1 := Int.fmod_nonneg_of_pos z (b := 2147483647) (by decide)
  have h2 := Int.fmod_lt_of_pos z (b := 2147483647) (by decide)
  refine IntMulOk.of_left (intBits_le_64 ?_ ?_)
  · show _ ≤ z.fmod 2147483647; omega
  · show z.fmod 2147483647 < _; omega
local macro_rules | `(tactic| mul_fits) => `(tactic| with_reducible exact mulP _ _ _)
local macro_rules | `(tactic| k_all) => `(tactic| assumption)
set_option maxHeartbeats 1500000 in
noncomputable def cut180 : Cut (∀ (w : World) (p : Program) (loose : List Str) (mean : ExcName → Option Value) (mg mb : Str → Option Value) (d : SrcD × Int), TellsM PySem.Challenge.rw_xw0159_01.row.prog w (hd.heap_1 w.params) p loose mean mg mb 180 takeT d) := by
  refine' ⟨_, fun kP w p loose mean mg mb d => ?use⟩
  case use =>
    unfold TellsM
    k_fill
    intro dp un gd cn cs a ccd cl outer A₀ base h₀ L m ext news s vs Q E B F X N off T hk hR hdp hun hret
    obtain ⟨⟨src, x, y, k, k', n⟩, top⟩ := d
    obtain ⟨⟨hx0, hy0, hy1⟩, ht1, ht8, kt, rfl⟩ := hR
    dsimp only [takeT, SrcD.obj] at *
    have off' : ∀ p ∈ ext ++ news, p.1 ≠ src := off _ (.head _)
    clear off
    replace N : News h₀ L s.heap ((src, listOf #[.int x k, .int y k'] n) :: (ext ++ news)) := N
    refine wpAny_call ?_
    k_dflt ktr_enter
    rename_i g' L' h' FG' F' N' B' X' T'
    revert T'; revert X'; revert B'; revert N'; revert F'; revert FG'; revert hret; revert hun; revert hdp; revert off'; revert ht8; revert ht1; revert hy1; revert hy0; revert hx0; revert N; revert hk; revert T; revert X; revert F; revert B; revert kt; revert top; revert n; revert k'; revert k; revert y; revert x; revert src
    exact kP w p loose mean mg mb dp un gd cn cs a ccd cl outer A₀ base h₀ L m ext news s Q E g' L' h'
@[irreducible] noncomputable def x180 : Pt := pick pt0 fun x => x.at cut180.P
set_option maxHeartbeats 1500000 in
theorem take_tells_b : x180.at cut180.P := by
  intro src x y k k' n top kt B F X T hk N hx0 hy0 hy1 ht1 ht8 off' hdp hun hret FG' F' N' B' X' T'
  have hc := cLine_is
  k_steps
  · rename News _ _ _ _ => NE
    refine hret _ _ [] _ _ ⟨⟨src, _, _, _, _, _⟩, ⟨?_, hy0, hy1⟩, rfl, rfl⟩ (by assumption) (take_end NE) (fun _ _ _ h => nomatch h) ⟨_, _, rfl, ?_, ?_⟩
    · exact Int.fdiv_nonneg hx0 (by omega)
    · exact Int.fmod_nonneg_of_pos x (by omega)
    · exact Int.fmod_lt_of_pos x (by omega)
  · rename News _ _ _ _ => NE
    refine hret _ _ [] _ _ ⟨⟨src, _, _, _, _, _⟩, ⟨hx0, ?_, ?_⟩, rfl, rfl⟩ (by assumption) (take_end NE) (fun _ _ _ h => nomatch h) ⟨_, _, rfl, ?_, ?_⟩
    · exact Int.fmod_nonneg_of_pos _ (by decide)
    · exact Int.fmod_lt_of_pos _ (by decide)
    · exact Int.fmod_nonneg_of_pos _ (by omega)
    · exact Int.fmod_lt_of_pos _ (by omega)
theorem take_tells (w : World) (p : Program) (loose : List Str) (mean : ExcName → Option Value) (mg mb : Str → Option Value) (d : SrcD × Int) :
    TellsM PySem.Challenge.rw_xw0159_01.row.prog w (hd.heap_1 w.params) p loose mean mg mb 180 takeT d := cut_is (C := cut180) (by delta x180; rfl) take_tells_b w p loose mean mg mb d
/-- one of a list, by a draw -/
structure OneD where
  d : SrcD
  items : List Value
structure OneIn (news : List (Addr × Obj)) (vs : List Value) (o : OneD) : Prop where
  ok : o.d.ok
  h1 : 1 ≤ o.items.length
  h8 : o.items.length ≤ 8
  h : ∃ l n, (l, listOf o.items.toArray n) ∈ news ∧ vs = [.ref o.d.src, .ref l]
noncomputable abbrev oneT : ToldM OneD where
  Rel := fun all _ vs o => OneIn all vs o
  Pre := fun o => [o.d.obj]
  Post := fun o l' => SrcPost o.d.src l'
  size := fun _ => 3
  Out := fun _ r o => r ∈ o.items
local macro_rules | `(tactic| walk_at "call ref") => `(tactic| (k_here; (with_reducible show wpAny _ _ (call (Value.ref _) _) _ _ _); refine Halt.go ?_))
local macro_rules | `(tactic| walk_at "subscriptTail") => `(tactic| (k_here; refine Halt.go ?_))
local macro_rules | `(tactic| walk_at "call builtin:len") => `(tactic| (k_here; refine Halt.go ?_))
local macro_rules | `(tactic| walk_at "m:el") => `(tactic| with_reducible first | exact memHead | (refine memTail ?_; walk_at "m:el") | (refine memR ?_; walk_at "m:el") | (refine memL ?_; walk_at "m:el"))
local macro_rules | `(tactic| walk_at "m:in") => `(tactic| with_reducible first | assumption | exact subRefl | exact subNil | (refine subCons ?_ ?_; (walk_at "m:el"); (walk_at "m:in")) | (refine subApp ?_ ?_; (walk_at "m:in"); (walk_at "m:in")) | (refine subTail ?_; walk_at "m:in") | (refine subR ?_; walk_at "m:in") | (refine subL ?_; walk_at "m:in"))
set_option maxHeartbeats 1500000 in
noncomputable def cut187 : Cut (∀ (w : World) (p : Program) (loose : List Str) (mean : ExcName → Option Value) (mg mb : Str → Option Value) (o : OneD), TellsM PySem.Challenge.rw_xw0159_01.row.prog w (hd.heap_1 w.params) p loose mean mg mb 187 oneT o) := by
  refine' ⟨_, fun kP w p loose mean mg mb o => ?use⟩
  case use =>
    unfold TellsM
    k_fill
    intro dp un gd cn cs a ccd cl outer A₀ base h₀ L m ext news s vs Q E B F X N off T hk hR hdp hun hret
    obtain ⟨hok, h1, h8, l, n, hm, rfl⟩ := hR
    dsimp only [oneT, SrcD.obj] at *
    have off' : ∀ p ∈ ext ++ news, p.1 ≠ o.d.src := off _ (.head _)
    clear off
    replace N : News h₀ L s.heap ((o.d.src, listOf #[.int o.d.x o.d.k, .int o.d.y o.d.k'] o.d.n) :: (ext ++ news)) := N
    refine wpAny_call ?_
    k_dflt ktr_enter
    rename_i g' L' h' FG' F' N' B' X' T'
    revert T'; revert X'; revert B'; revert N'; revert F'; revert FG'; revert hret; revert hun; revert hdp; revert off'; revert hm; revert h8; revert h1; revert hok; revert N; revert hk; revert T; revert X; revert F; revert B; revert n; revert l; revert o
    exact kP w p loose mean mg mb dp un gd cn cs a ccd cl outer A₀ base h₀ L m ext news s Q E g' L' h'
@[irreducible] noncomputable def x187 : Pt := pick pt0 fun x => x.at cut187.P
set_option maxHeartbeats 1500000 in
theorem one_tells_b : x187.at cut187.P := by
  intro o l n B F X T hk N hok h1 h8 hm off' hdp hun hret FG' F' N' B' X' T'
  have hc := cLine_is
  k_steps
  refine Halt.mk ?_
  have hlen : o.items.toArray.size = o.items.length := by simp
  k_dflt (refine len_list (my_isList (vs := o.items) (n := n) (a := l) (by k_asm) (by k_mem)) (by rw [hlen]; omega) ?_)
  rw [hlen]
  k_steps
  refine Halt.mk ?_
  k_dflt (refine' tellsM_use (c := takeT) (d := (o.d, (o.items.length : Int))) (x187.ext ++ x187.news) [] ?k1 ?k2 ?k3 ?k4 ?k5 ?kK (take_tells _ _ _ _ _ _ _) ?hP ?hr ?hs ?ho ?kR ?kd ?ku ?_)
  (((case k1 => k_asm); (case k2 => k_asm); (case k3 => k_asm); (case k4 => k_asm); (case k5 => k_asm); (case kK => first | exact rfl | assumption)))
  case hP => exact fun q hq => by rw [List.mem_singleton.mp hq]; exact .head _
  case hr => walk_at "m:in"
  case hs => walk_at "m:in"
  case ho => exact fun q hq p hp => by rw [List.mem_singleton.mp hq]; exact off' p hp
  case kR => exact ⟨hok, by show (1 : Int) ≤ (o.items.length : Int); omega, by show (o.items.length : Int) ≤ 8; omega, _, rfl⟩
  case kd => exact bud hdp (Nat.le_of_ble_eq_true rfl)
  case ku => exact bud hun (Nat.le_of_ble_eq_true rfl)
  intro r l' tl h' tk' hpost F2 N2 o2 hout
  obtain ⟨z, kz, rfl, hz0, hz1⟩ := hout
  obtain ⟨d', hd', hsrc, rfl⟩ := hpost
  dsimp only at hz1 hsrc
  replace N2 : News _ _ h' ((d'.src, listOf #[.int d'.x d'.k, .int d'.y d'.k'] d'.n) :: ((x187.ext ++ x187.news) ++ tl)) := N2
  have hzl : z.toNat < o.items.length := by omega
  k_steps
  refine Halt.mk ?_
  k_dflt (refine item_litK (vs := o.items) (my_isList (n := n) (by k_asm) (by k_mem)) hz0 (by omega) (List.getElem?_eq_getElem hzl) ?_)
  k_steps
  rename News _ _ _ _ => NE
  refine hret _ [d'.obj] tl _ _ ⟨d', hd', hsrc, rfl⟩ (by assumption) (nsub NE ?_) (fun q hq p hp => o2 q hq p hp) (List.getElem_mem _)
  show ∀ p ∈ (d'.src, listOf #[.int d'.x d'.k, .int d'.y d'.k'] d'.n) :: (x187.ext ++ (x187.news ++ tl)), _
  rw [← List.append_assoc]
  exact fun _ h => h
theorem one_tells (w : World) (p : Program) (loose : List Str) (mean : ExcName → Option Value) (mg mb : Str → Option Value) (o : OneD) :
    TellsM PySem.Challenge.rw_xw0159_01.row.prog w (hd.heap_1 w.params) p loose mean mg mb 187 oneT o := cut_is (C := cut187) (by delta x187; rfl) one_tells_b w p loose mean mg mb o
end Mine
end SP15
/-! P16 -/
section SP16
open PySem.Spec PySem.Calls
namespace Mine
theorem withL2 {h₀ h : Heap} {L : Addr} {l : List (Addr × Obj)} {G : Prop} (N : News h₀ L h l) (k : ∀ l', l' = l → News h₀ L h l' → G) : G := k l rfl N
theorem pk1 {news A : List (Addr × Obj)} {c a : Addr} {o : Obj} (hm : (a, o) ∈ A) (h : @LE.le Nat _ c a) : (a, o) ∈ news ++ A.filter (fun p => decide (@LE.le Nat _ c p.1)) := memR (List.mem_filter.mpr ⟨hm, by simpa using h⟩)
theorem newSub {q : Addr × Obj} {ext news A : List (Addr × Obj)} {c : Addr} (h : ∀ p ∈ q :: (ext ++ news), p ∈ A) : ∀ p ∈ q :: (ext ++ (news ++ A.filter (fun p => decide (@LE.le Nat _ c p.1)))), p ∈ A := fun p hp => by
  rcases List.mem_cons.mp hp with rfl | hp
  · exact h _ (.head _)
  · rw [← List.append_assoc] at hp
    rcases List.mem_append.mp hp with hp | hp
    · exact h _ (.tail _ hp)
    · exact (List.mem_filter.mp hp).1
theorem newOrd {q : Addr × Obj} {old A : List (Addr × Obj)} {c : Addr} (h : q.1 < c) (ho : ∀ p ∈ old, p.1 < c) : ∀ r ∈ q :: old, ∀ p ∈ A.filter (fun p => decide (@LE.le Nat _ c p.1)), r.1 < p.1 := fun r hr p hp => by
  have h2 : @LE.le Nat _ c p.1 := by simpa using (List.mem_filter.mp hp).2
  rcases List.mem_cons.mp hr with rfl | hr
  · exact Nat.lt_of_lt_of_le h h2
  · exact Nat.lt_of_lt_of_le (ho r hr) h2
theorem TyAll.pick {news : List (Addr × Obj)} {vs : List Value} {ts : List Ty} {v : Value} (h : TyAll news vs ts) (hv : v ∈ vs) : ∃ t, t ∈ ts ∧ TyIn news v t := by
  induction h with
  | nil => cases hv
  | cons a _ ih =>
    rcases List.mem_cons.mp hv with rfl | hv
    · exact ⟨_, .head _, a⟩
    · obtain ⟨t, ht, hT⟩ := ih hv
      exact ⟨t, .tail _ ht, hT⟩
noncomputable abbrev aroundT : ToldM (SrcD × Ty) where
  Rel := fun _ news vs d => d.1.ok ∧ d.2.ok ∧ ∃ vt, TyIn news vt d.2 ∧ vs = [.ref d.1.src, vt]
  Pre := fun d => [d.1.obj]
  Post := fun d l' => SrcPost d.1.src l'
  size := fun _ => 6
  Out := fun news r d => ∃ t', TyIn news r t' ∧ t'.depth = d.2.depth + 1 ∧ t'.ok
local macro_rules | `(tactic| walk_at "m:mem") => `(tactic| first | assumption | exact List.Mem.head _ | (with_reducible refine memTail ?_; walk_at "m:mem") | (with_reducible refine memR ?_; walk_at "m:mem") | (with_reducible refine memL ?_; walk_at "m:mem"))
local macro_rules | `(tactic| k_mem) => `(tactic| walk_at "m:mem")
local macro_rules | `(tactic| walk_at "call ref") => `(tactic| (k_here; (with_reducible show wpAny _ _ (call (Value.ref _) _) _ _ _); refine Halt.go ?_))
local macro_rules | `(tactic| walk_at "m:el") => `(tactic| with_reducible first | exact memHead | (refine memTail ?_; walk_at "m:el") | (refine memR ?_; walk_at "m:el") | (refine memL ?_; walk_at "m:el"))
local macro_rules | `(tactic| walk_at "m:in") => `(tactic| with_reducible first | assumption | exact subRefl | exact subNil | (refine subCons ?_ ?_; (walk_at "m:el"); (walk_at "m:in")) | (refine subApp ?_ ?_; (walk_at "m:in"); (walk_at "m:in")) | (refine subTail ?_; walk_at "m:in") | (refine subR ?_; walk_at "m:in") | (refine subL ?_; walk_at "m:in"))
set_option maxHeartbeats 1500000 in
noncomputable def cut194 : Cut (∀ (w : World) (p : Program) (loose : List Str) (mean : ExcName → Option Value) (mg mb : Str → Option Value) (d : SrcD × Ty), TellsM PySem.Challenge.rw_xw0159_01.row.prog w (hd.heap_1 w.params) p loose mean mg mb 194 aroundT d) := by
  refine' ⟨_, fun kP w p loose mean mg mb d => ?use⟩
  case use =>
    unfold TellsM
    k_fill
    intro dp un gd cn cs a ccd cl outer A₀ base h₀ L m ext news s vs Q E B F X N off T hk hR hdp hun hret
    obtain ⟨d, t⟩ := d
    obtain ⟨hok, htok, vt, hT, rfl⟩ := hR
    dsimp only [aroundT, SrcD.obj] at *
    have off' : ∀ p ∈ ext ++ news, p.1 ≠ d.src := off _ (.head _)
    clear off
    replace N : News h₀ L s.heap ((d.src, listOf #[.int d.x d.k, .int d.y d.k'] d.n) :: (ext ++ news)) := N
    refine wpAny_call ?_
    k_dflt ktr_enter
    rename_i g' L' h' FG' F' N' B' X' T'
    revert T'; revert X'; revert B'; revert N'; revert F'; revert FG'; revert hret; revert hun; revert hdp; revert off'; revert hT; revert htok; revert hok; revert N; revert hk; revert T; revert X; revert F; revert B; revert vt; revert t; revert d
    exact kP w p loose mean mg mb dp un gd cn cs a ccd cl outer A₀ base h₀ L m ext news s Q E g' L' h'
@[irreducible] noncomputable def x194 : Pt := pick pt0 fun x => x.at cut194.P
set_option maxHeartbeats 1500000 in
theorem around_tells_b : x194.at cut194.P := by
  intro d t vt B F X T hk N hok htok hT off' hdp hun hret FG' F' N' B' X' T'
  have hc := cLine_is
  k_steps
  refine Halt.mk ?_
  rename_i c11 _ l13 _ _ c10 _ _ c9 _ _ c8 _ _ c7 _ _ c6 _ _ c5 _ _ c4 _ _ _ _ _ _ c3 _ _ c2 _ _ c1 _ _ _ _ _ cL _ FE NE lE
  refine withL2 NE fun A hA NE' => ?_
  obtain ⟨lsrc, lall⟩ := l13
  have lold : ∀ p ∈ x194.ext ++ x194.news, p.1 < c11 := tb_ltOf lall
  have sub0 : ∀ p ∈ (d.src, listOf #[.int d.x d.k, .int d.y d.k'] d.n) :: (x194.ext ++ x194.news), p ∈ A := subEq hA (by walk_at "m:in")
  have N1 : News _ _ _ ((d.src, listOf #[.int d.x d.k, .int d.y d.k'] d.n) :: (x194.ext ++ (x194.news ++ A.filter (fun p => decide (@LE.le Nat _ c11 p.1))))) := nsub NE' (newSub sub0)
  have hTA : TyAll (x194.news ++ A.filter (fun p => decide (@LE.le Nat _ c11 p.1))) [.ref c10, .ref c9, .ref c8, .ref c6, .ref c4, .ref c1] [.box t, .rf (Str.ofString "'b") t, .arr 3 t, .tup1 t, .tup2 t, .adtS t] := by
    have hT' : TyIn (x194.news ++ A.filter (fun p => decide (@LE.le Nat _ c11 p.1))) vt t := hT.mono fun p hp => memL hp
    refine .cons (.box (pk1 (memEq hA (by k_mem)) (by omega)) hT') (.cons (.rf (pk1 (memEq hA (by k_mem)) (by omega)) hT') (.cons (.arr (pk1 (memEq hA (by k_mem)) (by omega)) hT') (.cons (.tup1 (pk1 (memEq hA (by k_mem)) (by omega)) (pk1 (memEq hA (by k_mem)) (by omega)) hT') (.cons (.tup2 (pk1 (memEq hA (by k_mem)) (by omega)) (pk1 (memEq hA (by k_mem)) (by omega)) (.u8 (pk1 (memEq hA (by k_mem)) (by omega))) hT') (.cons (.adtS (pk1 (memEq hA (by k_mem)) (by omega)) (pk1 (memEq hA (by k_mem)) (by omega)) (pk1 (memEq hA (by k_mem)) (by omega)) hT') .nil)))))
  have hL : (cL, listOf [Value.ref c10, .ref c9, .ref c8, .ref c6, .ref c4, .ref c1].toArray 0) ∈ x194.news ++ A.filter (fun p => decide (@LE.le Nat _ c11 p.1)) := pk1 (memEq hA (by k_mem)) (by omega)
  have o1 : ∀ q ∈ (d.src, listOf #[.int d.x d.k, .int d.y d.k'] d.n) :: (x194.ext ++ x194.news), ∀ p ∈ A.filter (fun p => decide (@LE.le Nat _ c11 p.1)), q.1 < p.1 := newOrd lsrc lold
  generalize A.filter (fun p => decide (@LE.le Nat _ c11 p.1)) = tl1 at N1 hTA hL o1
  clear NE NE' hA
  k_dflt (refine' tellsM_use (c := oneT) (d := ⟨d, [.ref c10, .ref c9, .ref c8, .ref c6, .ref c4, .ref c1]⟩) (x194.ext ++ (x194.news ++ tl1)) [] ?k1 ?k2 ?k3 ?k4 ?k5 ?kK (one_tells _ _ _ _ _ _ _) ?hP ?hr ?hs ?ho ?kR ?kd ?ku ?_)
  (((case k1 => k_asm); (case k2 => k_asm); (case k3 => k_asm); (case k4 => k_asm); (case k5 => k_asm); (case kK => first | exact rfl | assumption)))
  case hP => exact fun q hq => by rw [List.mem_singleton.mp hq]; exact .head _
  case hr => walk_at "m:in"
  case hs => walk_at "m:in"
  case ho =>
    intro q hq p hp
    rw [List.mem_singleton.mp hq]
    rw [← List.append_assoc] at hp
    rcases List.mem_append.mp hp with hp | hp
    · exact off' p hp
    · exact Nat.ne_of_gt (o1 _ (.head _) p hp)
  case kR => exact ⟨hok, (by show 1 ≤ 6; decide), (by show 6 ≤ 8; decide), cL, 0, memL (memR hL), rfl⟩
  case kd => exact bud hdp (Nat.le_of_ble_eq_true rfl)
  case ku => exact bud hun (Nat.le_of_ble_eq_true rfl)
  intro r l' tl h2 tk2 hpost F2 N2 o2 hout
  obtain ⟨d', hd', hsrc, rfl⟩ := hpost
  dsimp only at hsrc
  replace N2 : News _ _ h2 ((d'.src, listOf #[.int d'.x d'.k, .int d'.y d'.k'] d'.n) :: ((x194.ext ++ (x194.news ++ tl1)) ++ tl)) := N2
  obtain ⟨t', ht', hTr⟩ := hTA.pick hout
  have hgood : t'.depth = t.depth + 1 ∧ t'.ok := by
    simp only [List.mem_cons, List.not_mem_nil, or_false] at ht'
    rcases ht' with rfl | rfl | rfl | rfl | rfl | rfl <;> simp [Ty.depth, Ty.ok, htok]
    decide +kernel
  k_steps
  rename News _ _ _ _ => NE
  refine hret _ [d'.obj] (tl1 ++ tl) _ _ ⟨d', hd', hsrc, rfl⟩ (by assumption) (nsub NE ?_) (fun q hq p hp => ?_) ⟨t', hTr.mono (by walk_at "m:in"), hgood⟩
  · show ∀ p ∈ (d'.src, listOf #[.int d'.x d'.k, .int d'.y d'.k'] d'.n) :: (x194.ext ++ (x194.news ++ (tl1 ++ tl))), _
    walk_at "m:in"
  · rcases List.mem_append.mp hp with hp | hp
    · exact o1 q hq p hp
    · refine o2 q ?_ p hp
      rcases List.mem_cons.mp hq with rfl | hq
      · exact .head _
      · refine .tail _ ?_
        replace hq : q ∈ x194.ext ++ x194.news := hq
        show q ∈ x194.ext ++ (x194.news ++ tl1)
        rw [← List.append_assoc]; exact memL hq
theorem around_tells (w : World) (p : Program) (loose : List Str) (mean : ExcName → Option Value) (mg mb : Str → Option Value) (d : SrcD × Ty) :
    TellsM PySem.Challenge.rw_xw0159_01.row.prog w (hd.heap_1 w.params) p loose mean mg mb 194 aroundT d := cut_is (C := cut194) (by delta x194; rfl) around_tells_b w p loose mean mg mb d
end Mine
end SP16
/-! L29 -/
section SL29
open PySem.Spec PySem.Calls
namespace Mine
/-! the ledger without the two tables -/
noncomputable def strip (l : List (Addr × Obj)) : List (Addr × Obj) := l.filter fun p => !(p.1 == 101) && !(p.1 == 80)
theorem strip_mem {l : List (Addr × Obj)} {p : Addr × Obj} (h : p ∈ strip l) : p ∈ l ∧ p.1 ≠ 101 ∧ p.1 ≠ 80 := by
  obtain ⟨h1, h2⟩ := List.mem_filter.mp h
  simp only [Bool.and_eq_true, Bool.not_eq_true', beq_eq_false_iff_ne] at h2
  exact ⟨h1, h2⟩
section
variable {h₀ h : Heap} {L : Addr} {all : List (Addr × Obj)} {s0 s1 : Option Addr}
theorem tab_data {l c : Nat} {st : Option Addr} : ∃ vs, (tabOf l c st).data = .fields vs := by
  cases st <;> exact ⟨_, rfl⟩
theorem in_strip (N : News h₀ L h all) (t1 : (101, tabOf 72 4 s1) ∈ all) (t0 : (80, tabOf 47 4 s0) ∈ all) {a : Addr} {o : Obj} (hm : (a, o) ∈ all) (ho : ∀ vs, o.data ≠ .fields vs) : (a, o) ∈ strip all := by
  refine List.mem_filter.mpr ⟨hm, ?_⟩
  have h1 : a ≠ 101 := fun e => by
    subst e
    have e := (N _ hm).1.symm.trans (N _ t1).1
    have e : o = tabOf 72 4 s1 := Option.some.inj e
    obtain ⟨vs, hv⟩ := tab_data (l := 72) (c := 4) (st := s1)
    exact ho vs (by rw [e]; exact hv)
  have h2 : a ≠ 80 := fun e => by
    subst e
    have e := (N _ hm).1.symm.trans (N _ t0).1
    have e : o = tabOf 47 4 s0 := Option.some.inj e
    obtain ⟨vs, hv⟩ := tab_data (l := 47) (c := 4) (st := s0)
    exact ho vs (by rw [e]; exact hv)
  simpa using ⟨h1, h2⟩
theorem tup_strip (N : News h₀ L h all) (t1 : (101, tabOf 72 4 s1) ∈ all) (t0 : (80, tabOf 47 4 s0) ∈ all) {a : Addr} {vs : List Value} {n : Nat} (hm : (a, tupO vs n) ∈ all) : (a, tupO vs n) ∈ strip all := in_strip N t1 t0 hm fun vs e => by cases e
theorem TyIn.strip (N : News h₀ L h all) (t1 : (101, tabOf 72 4 s1) ∈ all) (t0 : (80, tabOf 47 4 s0) ∈ all) {v : Value} {t : Ty} (hT : TyIn all v t) : TyIn (strip all) v t := by
  have S : ∀ {a : Addr} {vs : List Value} {n : Nat}, (a, tupO vs n) ∈ all → (a, tupO vs n) ∈ Mine.strip all := fun hm => tup_strip N t1 t0 hm
  induction hT with
  | bool a => exact .bool (S a)
  | u8 a => exact .u8 (S a)
  | par a => exact .par (S a)
  | box a _ ih => exact .box (S a) ih
  | rf a _ ih => exact .rf (S a) ih
  | arr a _ ih => exact .arr (S a) ih
  | tup1 a b _ ih => exact .tup1 (S a) (S b) ih
  | tup2 a b _ _ ih ih' => exact .tup2 (S a) (S b) ih ih'
  | adtS a b c _ ih => exact .adtS (S a) (S b) (S c) ih
  | adtR a b c _ ih => exact .adtR (S a) (S b) (S c) ih
theorem tabOk_strip {qual : Str} {st : Option Addr} (N : News h₀ L h all) (t1 : (101, tabOf 72 4 s1) ∈ all) (t0 : (80, tabOf 47 4 s0) ∈ all) (h : TabOk qual all st) : TabOk qual (strip all) st := by
  cases st with
  | none => trivial
  | some c =>
    obtain ⟨oc, vs, t, hm, hd, hv⟩ := h
    refine ⟨oc, vs, t, List.mem_filter.mpr ⟨hm, ?_⟩, hd, hv⟩
    have h1 : c ≠ 101 := fun e => by
      subst e
      have e := (N _ hm).1.symm.trans (N _ t1).1
      have e : oc = tabOf 72 4 s1 := Option.some.inj e
      rw [e] at hd
      exact tabOf_no vs t hd hv
    have h2 : c ≠ 80 := fun e => by
      subst e
      have e := (N _ hm).1.symm.trans (N _ t0).1
      have e : oc = tabOf 47 4 s0 := Option.some.inj e
      rw [e] at hd
      exact tabOf_no vs t hd hv
    simpa using ⟨h1, h2⟩
end
theorem tellsT_use {prog : Program} {w : World} {K : Frag} {p : Program} {loose : List Str} {mean : ExcName → Option Value} {mg mb : Str → Option Value} {d : Nat} {ty : Ty} {res : Option (List (Str × Str))}
    {un : Nat} {gd : Option (List Code)} {cn : Str} {cs : Scope} {a : Addr} {ccd : Value} {A₀ : Around} {base h₀ : Heap} {L : Addr} {m : Str → Option Value} {all : List (Addr × Obj)} {s0 s1 : Option Addr} {s : Shared} {vt : Value} {k : Tok}
    {Q E : Value → Shared → Prop} (B : Below A₀ base [] h₀) (F : Fr h₀ L s.heap m) (X : K.In h₀) (N : News h₀ L s.heap all) (T : Top p loose mean mg mb h₀) (hk : cs.kind = .function) (C : TellsT prog w K p loose mean mg mb d ty res) (HR : HypR base) (HF : HypF base) (XB : K.In base) (TB : Top p loose mean mg mb base)
    (t1 : (101, tabOf 72 4 s1) ∈ all) (t0 : (80, tabOf 47 4 s0) ∈ all) (hT : TyIn all vt ty) (T0 : TabOk q80 all s0) (T1 : TabOk q101 all s1) (ok : ty.ok) (hd : d ≤ 3) (run : ∃ k, RunN (inn d) k [] [ty] [] 0 res) (fit : Fit res) (hu : un + 3000 < cLine)
    (ret : ∀ r s0' s1' tl h' dr tk', Fr h₀ L h' m → News h₀ L h' ((101, tabOf 72 4 s1') :: (80, tabOf 47 4 s0') :: (strip all ++ tl)) → (∀ q ∈ all, ∀ p ∈ tl, q.1 < p.1) → TabOk q80 (strip all ++ tl) s0' → TabOk q101 (strip all ++ tl) s1' → ToldOut (strip all ++ tl) r res → Q r { s with heap := h', drawn := dr, toks := tk' }) :
    wpAny (model prog w) (ktrTop 302 un gd cn cs L a ccd [] []) (call (.ref 215) [vt, .int (d : Int) k]) Q E s := by
  refine C _ _ _ _ _ _ _ _ _ _ _ [] (strip all) s0 s1 _ _ _ _ _ B HR HF XB TB F X (fun q hq => ?_) (fun q hq => (strip_mem hq).2.1) (fun q hq => (strip_mem hq).2.2) T hk (hT.strip N t1 t0) (tabOk_strip N t1 t0 T0) (tabOk_strip N t1 t0 T1) ok hd run fit hu fun r s0' s1' tl h' dr tk' F' N' o a1 a2 out => ?_
  · rcases List.mem_cons.mp hq with rfl | hq
    · exact N _ t1
    · rcases List.mem_cons.mp hq with rfl | hq
      · exact N _ t0
      · exact N q (strip_mem hq).1
  · refine ret r s0' s1' tl h' dr tk' F' N' (fun q hq p hp => ?_) a1 a2 out
    by_cases h1 : q.1 = 101
    · rw [h1]; exact o (101, tabOf 72 4 s1) (.head _) p hp
    · by_cases h2 : q.1 = 80
      · rw [h2]; exact o (80, tabOf 47 4 s0) (.tail _ (.head _)) p hp
      · exact o q (.tail _ (.tail _ (List.mem_filter.mpr ⟨hq, by simpa using ⟨h1, h2⟩⟩))) p hp
end Mine
end SL29
/-! L30 -/
section SL30
open PySem.Spec PySem.Calls
namespace Mine
noncomputable def pairD (p : Str × Str) : PyData := .tuple [.str p.1, .str p.2]
noncomputable def pairsD (ps : List (Str × Str)) : PyData := .list (ps.map pairD)
section
variable {prog : Program} {w : World} {A : Around} {E : Value → Shared → Prop} {s : Shared} {h₀ h : Heap} {L l b : Addr} {all : List (Addr × Obj)} {vs ws : List Value} {n n' : Nat} {ps qs : List (Str × Str)} {Q : Value → Shared → Prop}
theorem PairAll.reads (N : News h₀ L h all) (P : PairAll all vs ps) : ReadsAll h vs (ps.map pairD) [] := by
  induction P with
  | nil => exact .nil
  | cons a _ ih => exact readsCons (readsTup (N _ a).1 (readsCons (.str _ _) (readsCons (.str _ _) .nil))) ih
theorem pairs_ne (N : News h₀ L s.heap all) (hl : (l, listOf vs.toArray n) ∈ all) (hb : (b, listOf ws.toArray n') ∈ all) (P : PairAll all vs ps) (P' : PairAll all ws qs) (ha : (pairsD ps).canLay0 = true) (hc : (pairsD qs).canLay0 = true) (hd : (pairsD ps).depth ≤ 5) (hu : A.units + 5 < cLine)
    (h : Q (.bool (!PyData.eqv (pairsD ps) (pairsD qs))) s) : wpAny (model prog w) A (compareOp .NotEq (.ref l) (.ref b)) Q E s := by
  refine SeqAt.compareNe_reads (readsList (N _ hl).1 (P.reads N)) (readsList (N _ hb).1 (P'.reads N)) ha hc ?_ h
  have h1 : min (PyData.list (ps.map pairD)).depth (PyData.list (qs.map pairD)).depth ≤ (pairsD ps).depth := Nat.min_le_left _ _
  omega
theorem pairs_eq (N : News h₀ L s.heap all) (hl : (l, listOf vs.toArray n) ∈ all) (hb : (b, listOf ws.toArray n') ∈ all) (P : PairAll all vs ps) (P' : PairAll all ws qs) (ha : (pairsD ps).canLay0 = true) (hc : (pairsD qs).canLay0 = true) (hd : (pairsD ps).depth ≤ 5) (hu : A.units + 5 < cLine)
    (h : Q (.bool (PyData.eqv (pairsD ps) (pairsD qs))) s) : wpAny (model prog w) A (compareOp .Eq (.ref l) (.ref b)) Q E s := by
  refine SeqAt.compareEq_reads (readsList (N _ hl).1 (P.reads N)) (readsList (N _ hb).1 (P'.reads N)) ha hc ?_ h
  have h1 : min (PyData.list (ps.map pairD)).depth (PyData.list (qs.map pairD)).depth ≤ (pairsD ps).depth := Nat.min_le_left _ _
  omega
end
end Mine
end SL30
/-! L31 -/
section SL31
open PySem.Spec PySem.Calls
namespace Mine
/-! the ledger beside the list `source` -/
noncomputable def aside (a : Addr) (l : List (Addr × Obj)) : List (Addr × Obj) := l.filter fun p => !(p.1 == a)
theorem aside_mem {a : Addr} {l : List (Addr × Obj)} {p : Addr × Obj} (h : p ∈ aside a l) : p ∈ l ∧ p.1 ≠ a := by
  obtain ⟨h1, h2⟩ := List.mem_filter.mp h
  exact ⟨h1, by simpa using h2⟩
theorem in_aside {a : Addr} {l : List (Addr × Obj)} {p : Addr × Obj} (h : p ∈ l) (hn : p.1 ≠ a) : p ∈ aside a l := List.mem_filter.mpr ⟨h, by simpa using hn⟩
section
variable {h₀ h : Heap} {L : Addr} {all : List (Addr × Obj)}
theorem tup_aside (N : News h₀ L h all) {d : SrcD} (hd : d.obj ∈ all) {a : Addr} {vs : List Value} {n : Nat} (hm : (a, tupO vs n) ∈ all) : (a, tupO vs n) ∈ aside d.src all := by
  refine in_aside hm fun e => ?_
  have e : a = d.src := e
  subst e
  have e := (N _ hm).1.symm.trans (N _ hd).1
  have e : tupO vs n = listOf #[.int d.x d.k, .int d.y d.k'] d.n := Option.some.inj e
  have e2 := congrArg Obj.cls e
  exact absurd e2 (by show ¬ (Value.type "tuple" = Value.type "list"); decide)
theorem TyIn.aside (N : News h₀ L h all) {d : SrcD} (hd : d.obj ∈ all) {v : Value} {t : Ty} (hT : TyIn all v t) : TyIn (aside d.src all) v t := by
  have S : ∀ {a : Addr} {vs : List Value} {n : Nat}, (a, tupO vs n) ∈ all → (a, tupO vs n) ∈ Mine.aside d.src all := fun hm => tup_aside N hd hm
  induction hT with
  | bool a => exact .bool (S a)
  | u8 a => exact .u8 (S a)
  | par a => exact .par (S a)
  | box a _ ih => exact .box (S a) ih
  | rf a _ ih => exact .rf (S a) ih
  | arr a _ ih => exact .arr (S a) ih
  | tup1 a b _ ih => exact .tup1 (S a) (S b) ih
  | tup2 a b _ _ ih ih' => exact .tup2 (S a) (S b) ih ih'
  | adtS a b c _ ih => exact .adtS (S a) (S b) (S c) ih
  | adtR a b c _ ih => exact .adtR (S a) (S b) (S c) ih
end
section
variable {w : World} {p : Program} {loose : List Str} {mean : ExcName → Option Value} {mg mb : Str → Option Value} {dp un : Nat} {gd : Option (List Code)} {cn : Str} {cs : Scope} {a : Addr} {ccd : Value} {cl : List (Str × Addr)} {outer : List Env} {A₀ : Around} {base h₀ : Heap} {L : Addr} {m : Str → Option Value} {all : List (Addr × Obj)} {s : Shared} {vs : List Value} {Q E : Value → Shared → Prop}
theorem back_aside {h' : Heap} {d' : SrcD} {src : Addr} {tl : List (Addr × Obj)} (N : News h₀ L h' ([d'.obj] ++ (aside src all ++ tl))) : News h₀ L h' (d'.obj :: (aside src all ++ tl)) := N
theorem ord_aside {d : SrcD} {tl : List (Addr × Obj)} (hd : d.obj ∈ all) (o : ∀ q ∈ [d.obj] ++ aside d.src all, ∀ p ∈ tl, q.1 < p.1) : ∀ q ∈ all, ∀ p ∈ tl, q.1 < p.1 := fun q hq p hp => by
  by_cases e : q.1 = d.src
  · rw [e]; exact o d.obj (.head _) p hp
  · exact o q (.tail _ (in_aside hq e)) p hp
theorem takeA_use (d : SrcD) (top : Int) {sa : Addr} (ha : sa = d.src) {kt : Tok} (B : Below A₀ base outer h₀) (F : Fr h₀ L s.heap m) (X : (hd.heap_1 w.params).In h₀) (N : News h₀ L s.heap all) (T : Top p loose mean mg mb h₀) (hk : cs.kind = .function) (hd : d.obj ∈ all) (ok : d.ok) (h1 : 1 ≤ top) (h8 : top ≤ 8)
    (hr : dp + 1 < recursionLimit) (hu : un + 8 < cLine)
    (ret : ∀ z kz (d' : SrcD) tl h' tk', d'.ok → d'.src = d.src → Fr h₀ L h' m → News h₀ L h' (d'.obj :: (aside d.src all ++ tl)) → (∀ q ∈ all, ∀ p ∈ tl, q.1 < p.1) → 0 ≤ z → z < top → Q (.int z kz) { s with heap := h', toks := tk' }) :
    wpAny (model PySem.Challenge.rw_xw0159_01.row.prog w) (ktrTop dp un gd cn cs L a ccd cl outer) (call (.ref 180) [.ref sa, .int top kt]) Q E s := by
  subst ha
  refine tellsM_use (c := takeT) (d := (d, top)) (aside d.src all) [] B F X N T hk (take_tells w p loose mean mg mb _) (fun q hq => by rw [List.mem_singleton.mp hq]; exact hd) (fun q hq => (aside_mem hq).1) (fun _ h => nomatch h) (fun q hq p hp => by rw [List.mem_singleton.mp hq]; exact (aside_mem hp).2) ⟨ok, h1, h8, _, rfl⟩ hr hu ?_
  rintro r l' tl h' tk' ⟨d', hd', hs, rfl⟩ F' N' o ⟨z, kz, rfl, hz0, hz1⟩
  exact ret z kz d' tl h' tk' hd' hs F' (back_aside N') (ord_aside hd o) hz0 hz1
theorem oneA_use (d : SrcD) (items : List Value) {sa : Addr} (ha : sa = d.src) {l : Addr} {n : Nat} (B : Below A₀ base outer h₀) (F : Fr h₀ L s.heap m) (X : (hd.heap_1 w.params).In h₀) (N : News h₀ L s.heap all) (T : Top p loose mean mg mb h₀) (hk : cs.kind = .function) (hd : d.obj ∈ all) (ok : d.ok) (h1 : 1 ≤ items.length) (h8 : items.length ≤ 8)
    (hl : (l, listOf items.toArray n) ∈ all) (hne : l ≠ d.src) (hr : dp + 3 < recursionLimit) (hu : un + 24 < cLine)
    (ret : ∀ r (d' : SrcD) tl h' tk', d'.ok → d'.src = d.src → Fr h₀ L h' m → News h₀ L h' (d'.obj :: (aside d.src all ++ tl)) → (∀ q ∈ all, ∀ p ∈ tl, q.1 < p.1) → r ∈ items → Q r { s with heap := h', toks := tk' }) :
    wpAny (model PySem.Challenge.rw_xw0159_01.row.prog w) (ktrTop dp un gd cn cs L a ccd cl outer) (call (.ref 187) [.ref sa, .ref l]) Q E s := by
  subst ha
  refine tellsM_use (c := oneT) (d := ⟨d, items⟩) (aside d.src all) [] B F X N T hk (one_tells w p loose mean mg mb _) (fun q hq => by rw [List.mem_singleton.mp hq]; exact hd) (fun q hq => (aside_mem hq).1) (fun _ h => nomatch h) (fun q hq p hp => by rw [List.mem_singleton.mp hq]; exact (aside_mem hp).2) ⟨ok, h1, h8, l, n, memL (in_aside hl hne), rfl⟩ hr hu ?_
  rintro r l' tl h' tk' ⟨d', hd', hs, rfl⟩ F' N' o hr
  exact ret r d' tl h' tk' hd' hs F' (back_aside N') (ord_aside hd o) hr
theorem aroundA_use (d : SrcD) (t : Ty) (core : List (Addr × Obj)) {sa : Addr} (ha : sa = d.src) {vt : Value} (B : Below A₀ base outer h₀) (F : Fr h₀ L s.heap m) (X : (hd.heap_1 w.params).In h₀) (N : News h₀ L s.heap all) (T : Top p loose mean mg mb h₀) (hk : cs.kind = .function) (hd : d.obj ∈ all) (ok : d.ok) (tok : t.ok)
    (hc1 : ∀ p ∈ core, p ∈ all) (hc2 : ∀ p ∈ core, p.1 ≠ d.src) (hT : TyIn core vt t)
    (hr : dp + 6 < recursionLimit) (hu : un + 48 < cLine)
    (ret : ∀ r t' (d' : SrcD) tl h' tk', d'.ok → d'.src = d.src → Fr h₀ L h' m → News h₀ L h' (d'.obj :: (aside d.src all ++ tl)) → (∀ q ∈ all, ∀ p ∈ tl, q.1 < p.1) → TyIn (core ++ tl) r t' → t'.depth = t.depth + 1 → t'.ok → Q r { s with heap := h', toks := tk' }) :
    wpAny (model PySem.Challenge.rw_xw0159_01.row.prog w) (ktrTop dp un gd cn cs L a ccd cl outer) (call (.ref 194) [.ref sa, vt]) Q E s := by
  subst ha
  refine tellsM_use (c := aroundT) (d := (d, t)) (aside d.src all) core B F X N T hk (around_tells w p loose mean mg mb _) (fun q hq => by rw [List.mem_singleton.mp hq]; exact hd) (fun q hq => (aside_mem hq).1) (fun q hq => in_aside (hc1 q hq) (hc2 q hq)) (fun q hq p hp => by rw [List.mem_singleton.mp hq]; exact (aside_mem hp).2) ⟨ok, tok, vt, hT, rfl⟩ hr hu ?_
  rintro r l' tl h' tk' ⟨d', hd', hs, rfl⟩ F' N' o ⟨t', hT', hdep, hok'⟩
  exact ret r t' d' tl h' tk' hd' hs F' (back_aside N') (ord_aside hd o) hT' hdep hok'
end
end Mine
end SL31
/-! L32 -/
section SL32
open PySem.Spec PySem.Calls
namespace Mine
section
variable {prog : Program} {w : World} {A : Around} {E : Value → Shared → Prop} {s : Shared} {l a1 a2 : Addr} {h₀ : Heap} {L : Addr} {m : Str → Option Value} {all : List (Addr × Obj)}
theorem list_sorted {vs : List Value} {n : Nat} {Q : Value → Shared → Prop} (F : Fr h₀ L s.heap m) (N : News h₀ L s.heap all) (hl : (l, listOf vs.toArray n) ∈ all) (h2 : vs.length ≤ 2)
    (h : ∀ (D : Addr) (h' : Heap), Fr h₀ L h' m → News h₀ L h' ((D, listOf vs.toArray 0) :: all) → (∀ q ∈ all, q.1 < D) →
      wpAny (model prog w) A.in1 (call (.builtin "list.sort") [.ref D]) (fun _ s' => Q (.ref D) s') E { s with heap := h' }) :
    wpAny (model prog w) A (call (.builtin "sorted") [.ref l]) Q E s := by
  have hli : s.heap.IsList l vs.toArray := ⟨_, (N _ hl).1, rfl, n, rfl⟩
  refine call_function_entry kind_sorted plain_sorted entry_sorted (args_sorted1 _) ?_
  unfold Builtin.«sorted»
  refine wpAny_bind (m := checkCount "sorted" 1 1 _) (wpAny_pure ?_)
  refine wpAny_bind (collect_list hli ?_ (by rw [sizeLine_eq]; omega))
  refine wpAny_bind (wpAny_newList ?_ (by rw [sizeLine_eq]; omega))
  have hsz : ((s.heap.push (seqObj "list" #[] 0)).update s.heap.objs.size (Obj.mapSeq (· ++ vs.toArray))).objs.size = s.heap.objs.size + 1 := by
    rw [Heap.size_update, size_push']
  have hoL : (((s.heap.push (seqObj "list" #[] 0)).update s.heap.objs.size (Obj.mapSeq (· ++ vs.toArray))).push (seqObj "list" vs.toArray 0)).get? (s.heap.objs.size + 1) = some (seqObj "list" vs.toArray 0) := by
    rw [← hsz]; exact Heap.get?_push_size _ rfl
  have keep : ∀ b o, s.heap.get? b = some o → (((s.heap.push (seqObj "list" #[] 0)).update s.heap.objs.size (Obj.mapSeq (· ++ vs.toArray))).push (seqObj "list" vs.toArray 0)).get? b = some o := fun b o q => by
    have hlt : b < s.heap.objs.size := Heap.lt_size q
    rw [Heap.get?_push_ne _ _ _ (by rw [hsz]; exact Nat.ne_of_lt (Nat.lt_succ_of_lt hlt)), Heap.get?_update_ne _ _ _ _ (Nat.ne_of_lt hlt), Heap.get?_push_ne _ _ _ (Nat.ne_of_lt hlt)]
    exact q
  have hL : L < s.heap.objs.size := F.ns.lt
  show wpAny _ _ _ _ _ { s with heap := ((s.heap.push (seqObj "list" #[] 0)).update s.heap.objs.size (Obj.mapSeq (· ++ vs.toArray))).push (seqObj "list" vs.toArray 0) }
  rw [hsz]
  have hg := h (s.heap.objs.size + 1) _ (F.kept keep) (fun p hp => ?_) (fun q hq => Nat.lt_succ_of_lt (Heap.lt_size (N q hq).1))
  refine wpAny_bind (wpAny_holding (wpAny_mono hg (fun _ s' x => ?_) fun _ _ e => e))
  exact wpAny_pure ⟨_, rfl, x⟩
  rcases List.mem_cons.mp hp with rfl | hp
  · exact ⟨hoL, Nat.ne_of_gt (Nat.lt_succ_of_lt hL), Heap.get?_none_of_le (Nat.le_trans F.above (Nat.le_succ_of_le (Nat.le_of_lt hL)))⟩
  · exact ⟨keep _ _ (N p hp).1, (N p hp).2⟩
theorem sortedL_one {v : Value} {n : Nat} {Q : Value → Shared → Prop} (F : Fr h₀ L s.heap m) (N : News h₀ L s.heap all) (hl : (l, listOf #[v] n) ∈ all)
    (h : ∀ D h' tk c, Fr h₀ L h' m → News h₀ L h' ((D, listOf #[v] c) :: all) → (∀ q ∈ all, q.1 < D) → Q (.ref D) { s with heap := h', toks := tk }) :
    wpAny (model prog w) A (call (.builtin "sorted") [.ref l]) Q E s := by
  refine list_sorted (vs := [v]) F N hl (Nat.le_of_ble_eq_true rfl) fun D h' F' N' o1 => ?_
  exact sort_one (s := { s with heap := h' }) F' N' (fun p hp => Nat.ne_of_lt (o1 p hp)) fun g tk' c F2 N2 => h D g tk' c F2 N2 o1
theorem sortedL_two {x1 r1 x2 r2 : Str} {k1 k1' k2 k2' : Tok} {n n1 n2 : Nat} {Q : Value → Shared → Prop} (F : Fr h₀ L s.heap m) (N : News h₀ L s.heap all) (hl : (l, listOf #[.ref a1, .ref a2] n) ∈ all)
    (m1 : (a1, tupO [.str x1 k1, .str r1 k1'] n1) ∈ all) (m2 : (a2, tupO [.str x2 k2, .str r2 k2'] n2) ∈ all) (hlt : x1.cps.toList < x2.cps.toList)
    (h : ∀ D h' tk c, Fr h₀ L h' m → News h₀ L h' ((D, listOf #[.ref a1, .ref a2] c) :: all) → (∀ q ∈ all, q.1 < D) → Q (.ref D) { s with heap := h', toks := tk }) :
    wpAny (model prog w) A (call (.builtin "sorted") [.ref l]) Q E s := by
  have hne : x1 ≠ x2 := fun e => by rw [e] at hlt; exact absurd hlt (List.lt_irrefl _)
  have hng : ¬ x2.cps.toList < x1.cps.toList := fun e => List.lt_asymm hlt e
  refine list_sorted (vs := [.ref a1, .ref a2]) F N hl (Nat.le_of_ble_eq_true rfl) fun D h' F' N' o1 => ?_
  refine sort_two (s := { s with heap := h' }) F' N' (fun p hp => Nat.ne_of_lt (o1 p hp)) m1 m2 hne fun g tk' c F2 N2 => ?_
  rw [if_neg hng] at N2
  exact h D g tk' c F2 N2 o1
end
/-- the law's way -/
inductive WayEnd (h₀ : Heap) (L : Addr) (m : Str → Option Value) (X : List (Addr × Obj)) (s : Shared) : Value → Shared → Prop
  | mk (z : Int) (k : Tok) (h' : Heap) (tk : Nat) : 0 ≤ z → z < 4 → Fr h₀ L h' m → News h₀ L h' X → WayEnd h₀ L m X s (.int z k) { s with heap := h', toks := tk }
theorem way_join {M : Model} {A : Around} {t : Sem Value} {Q E : Value → Shared → Prop} {s : Shared} {h₀ : Heap} {L : Addr} {m : Str → Option Value} {X : List (Addr × Obj)} (F : Fr h₀ L s.heap m)
    (h : wpAny M A t (WayEnd h₀ L m X s) E s)
    (k : ∀ (n : Nat) k h' tk, n ≤ 3 → Fr h₀ L h' m → News h₀ L h' X → Q (.int (n : Int) k) { s with heap := h', toks := tk }) : wpAny M A t Q E s :=
  wpAny_mono h (fun v s' h => by
    obtain ⟨z, kz, h', tk, h0, h4, a, b⟩ := h
    obtain ⟨n, rfl⟩ := Int.eq_ofNat_of_zero_le h0
    exact k n kz h' tk (by omega) a b) fun _ _ e => e
end Mine
end SL32
/-! L33 -/
section SL33
open PySem.Spec PySem.Calls
namespace Mine
section
variable {h₀ h : Heap} {L : Addr} {all : List (Addr × Obj)} {s0 s1 : Option Addr}
theorem withPairs2 {D a1 a2 : Addr} {x : Str} {n n1 n2 : Nat} {k1 k1' k2 k2' : Tok} {G : Prop} (_ : News h₀ L h all) (hl : (D, listOf #[.ref a1, .ref a2] n) ∈ all) (m1 : (a1, tupO [.str (Str.ofString "'c") k1, .str (Str.ofString "'c") k1'] n1) ∈ all) (m2 : (a2, tupO [.str x k2, .str (Str.ofString "'c") k2'] n2) ∈ all)
    (K : ∀ vs n, (D, listOf vs.toArray n) ∈ all → PairAll all vs [pc, (x, Str.ofString "'c")] → G) : G := K _ _ hl (.cons m1 (.cons m2 .nil))
theorem withPairs1 {D a1 : Addr} {n n1 : Nat} {k1 k1' : Tok} {G : Prop} (_ : News h₀ L h all) (hl : (D, listOf #[.ref a1] n) ∈ all) (m1 : (a1, tupO [.str (Str.ofString "'c") k1, .str (Str.ofString "'c") k1'] n1) ∈ all)
    (K : ∀ vs n, (D, listOf vs.toArray n) ∈ all → PairAll all vs [pc] → G) : G := K _ _ hl (.cons m1 .nil)
theorem PairAll.strip (N : News h₀ L h all) (t1 : (101, tabOf 72 4 s1) ∈ all) (t0 : (80, tabOf 47 4 s0) ∈ all) {vs : List Value} {ps : List (Str × Str)} (P : PairAll all vs ps) : PairAll (strip all) vs ps := by
  induction P with
  | nil => exact .nil
  | cons a _ ih => exact .cons (tup_strip N t1 t0 a) ih
theorem list_strip (N : News h₀ L h all) (t1 : (101, tabOf 72 4 s1) ∈ all) (t0 : (80, tabOf 47 4 s0) ∈ all) {a : Addr} {vs : Array Value} {n : Nat} (hm : (a, listOf vs n) ∈ all) : (a, listOf vs n) ∈ Mine.strip all := in_strip N t1 t0 hm fun vs e => by cases e
end
noncomputable abbrev qU : List (Str × Str) := [pc, (Str.ofString "U", Str.ofString "'c")]
noncomputable abbrev qD : List (Str × Str) := [pc, (Str.ofString "'d", Str.ofString "'c")]
noncomputable abbrev qB : List (Str × Str) := [pc]
theorem resU (n : Nat) (h : n ≤ 3) : (∃ k, RunN (inn n) k [] [rC argU] [] 0 (if n = 0 then some qU else none)) ∧ Fit (if n = 0 then some qU else none) := by
  have hn : n = 0 ∨ n = 1 ∨ n = 2 ∨ n = 3 := by omega
  rcases hn with rfl | rfl | rfl | rfl
  · exact ⟨run_U0, .inr ⟨_, rfl, by decide +kernel⟩⟩
  · exact ⟨run_U1, trivial⟩
  · exact ⟨run_U2, trivial⟩
  · exact ⟨run_U3, trivial⟩
theorem resD (n : Nat) (h : n ≤ 3) : (∃ k, RunN (inn n) k [] [rC argD] [] 0 (if n = 0 then some qD else none)) ∧ Fit (if n = 0 then some qD else none) := by
  have hn : n = 0 ∨ n = 1 ∨ n = 2 ∨ n = 3 := by omega
  rcases hn with rfl | rfl | rfl | rfl
  · exact ⟨run_D0, .inr ⟨_, rfl, by decide +kernel⟩⟩
  · exact ⟨run_D1, trivial⟩
  · exact ⟨run_D2, trivial⟩
  · exact ⟨run_D3, trivial⟩
theorem resB (n : Nat) (h : n ≤ 3) : (∃ k, RunN (inn n) k [] [rC .bool] [] 0 (if n = 0 then some qB else none)) ∧ Fit (if n = 0 then some qB else none) := by
  have hn : n = 0 ∨ n = 1 ∨ n = 2 ∨ n = 3 := by omega
  rcases hn with rfl | rfl | rfl | rfl
  · exact ⟨run_B0, .inl rfl⟩
  · exact ⟨run_B1, trivial⟩
  · exact ⟨run_B2, trivial⟩
  · exact ⟨run_B3, trivial⟩
theorem evU : PyData.eqv (pairsD qU) (pairsD qU) = true := by decide +kernel
theorem evD : PyData.eqv (pairsD qD) (pairsD qD) = true := by decide +kernel
theorem evB : PyData.eqv (pairsD qB) (pairsD qB) = true := by decide +kernel
end Mine
end SL33
/-! L34 -/
section SL34
open PySem.Spec PySem.Calls
namespace Mine
theorem ToldOut.someE {all : List (Addr × Obj)} {r : Value} {found : List (Str × Str)} {P : Prop} (h : ToldOut all r (some found)) (K : ∀ l vs n, r = .ref l → (l, listOf vs.toArray n) ∈ all → PairAll all vs found → P) : P := by
  obtain ⟨l, vs, n, e, a, b⟩ := h
  exact K l vs n e a b
theorem PairAll.e2 {news : List (Addr × Obj)} {vs : List Value} {x1 r1 x2 r2 : Str} {P : Prop} (h : PairAll news vs [(x1, r1), (x2, r2)])
    (K : ∀ a k k' n a' j j' n', vs = [.ref a, .ref a'] → (a, tupO [.str x1 k, .str r1 k'] n) ∈ news → (a', tupO [.str x2 j, .str r2 j'] n') ∈ news → P) : P := by
  cases h; rename_i h; cases h; rename_i h; cases h
  exact K _ _ _ _ _ _ _ _ rfl ‹_› ‹_›
theorem ifexp_any {M : Model} {A : Around} {t : Sem Value} {Q : Value → Shared → Prop} {E : Value → Shared → Prop} {s : Shared} (h : wpAny M A t (fun v s' => (∃ c tk, v = .int c tk) ∧ ∃ tk', s' = { s with toks := tk' }) E s)
    (k : ∀ c tk tk', Q (.int c tk) { s with toks := tk' }) : wpAny M A t Q E s :=
  wpAny_mono h (fun v s' h => by obtain ⟨⟨c, tk, rfl⟩, tk', rfl⟩ := h; exact k c tk tk') fun _ _ e => e
/-- the three cases of the law's arg -/
inductive ArgC : Ty → List Str → Prop
  | u : ArgC argU [Str.ofString "U"]
  | d : ArgC argD [Str.ofString "'d"]
  | b : ArgC .bool []
noncomputable def due (xs : List Str) : List (Str × Str) := pc :: xs.map fun x => (x, Str.ofString "'c")
theorem ArgC.res {ty : Ty} {xs : List Str} (c : ArgC ty xs) (n : Nat) (h : n ≤ 3) : (∃ k, RunN (inn n) k [] [rC ty] [] 0 (if n = 0 then some (due xs) else none)) ∧ Fit (if n = 0 then some (due xs) else none) := by
  cases c
  · exact resU n h
  · exact resD n h
  · exact resB n h
theorem ArgC.ev {ty : Ty} {xs : List Str} (c : ArgC ty xs) : PyData.eqv (pairsD (due xs)) (pairsD (due xs)) = true := by
  cases c <;> decide +kernel
theorem ArgC.lay {ty : Ty} {xs : List Str} (c : ArgC ty xs) : (pairsD (due xs)).canLay0 = true := by
  cases c <;> decide +kernel
theorem ArgC.dep {ty : Ty} {xs : List Str} (c : ArgC ty xs) : (pairsD (due xs)).depth ≤ 5 := by
  cases c <;> decide +kernel
theorem ArgC.ok {ty : Ty} {xs : List Str} (c : ArgC ty xs) : (rC ty).ok := by
  cases c
  · exact ⟨by decide +kernel, by show PyData.strOk _ = true; decide +kernel⟩
  · exact ⟨by decide +kernel, ⟨by decide +kernel, trivial⟩⟩
  · exact ⟨by decide +kernel, trivial⟩
theorem ArgC.short {ty : Ty} {xs : List Str} (c : ArgC ty xs) {X : List (Addr × Obj)} {ys : List Value} {r : Str} (P : PairAll X ys (xs.map fun x => (x, r))) : 1 + ys.length ≤ sizeLine := by
  have : ys.length ≤ 1 := by
    cases c
    · cases P; rename_i P; cases P; exact Nat.le_refl 1
    · cases P; rename_i P; cases P; exact Nat.le_refl 1
    · cases P; exact Nat.zero_le 1
  rw [sizeLine_eq]
  exact Nat.le_trans (Nat.add_le_add_left this 1) (Nat.le_of_ble_eq_true rfl)
theorem ArgC.small {ty : Ty} {xs : List Str} (c : ArgC ty xs) {vs : List Value} (h : StrAll vs xs) : vs.toArray.size ≤ sizeLine := by
  have : vs.toArray.size ≤ 1 := by
    cases c
    · cases h; rename_i h; cases h; exact Nat.le_refl 1
    · cases h; rename_i h; cases h; exact Nat.le_refl 1
    · cases h; exact Nat.zero_le 1
  rw [sizeLine_eq]
  exact Nat.le_trans this (Nat.le_of_ble_eq_true rfl)
section
variable {prog : Program} {w : World} {A : Around} {E : Value → Shared → Prop} {s : Shared} {l a1 : Addr} {h₀ : Heap} {L : Addr} {m : Str → Option Value} {all X : List (Addr × Obj)}
theorem sortedL_due {ty : Ty} {xs : List Str} (c : ArgC ty xs) {ys : List Value} {k k' : Tok} {n n1 : Nat} {Q : Value → Shared → Prop} (F : Fr h₀ L s.heap m) (N : News h₀ L s.heap all) (hl : (l, listOf ([Value.ref a1] ++ ys).toArray n) ∈ all)
    (m1 : (a1, tupO [.str (Str.ofString "'c") k, .str (Str.ofString "'c") k'] n1) ∈ all) (P : PairAll X ys (xs.map fun x => (x, Str.ofString "'c"))) (hX : ∀ p ∈ X, p ∈ all)
    (h : ∀ D h' tk vs j, Fr h₀ L h' m → News h₀ L h' ((D, listOf vs.toArray j) :: all) → (∀ q ∈ all, q.1 < D) → PairAll all vs (due xs) → Q (.ref D) { s with heap := h', toks := tk }) :
    wpAny (model prog w) A (call (.builtin "sorted") [.ref l]) Q E s := by
  cases c
  · cases P; rename_i a2 k2 k2' n2 vs2 hm2 P; cases P
    exact sortedL_two (x1 := Str.ofString "'c") (r1 := Str.ofString "'c") (x2 := Str.ofString "U") (r2 := Str.ofString "'c") F N hl m1 (hX _ hm2) (by decide +kernel) fun D h' tk j F' N' o => h D h' tk _ j F' N' o (.cons m1 (.cons (hX _ hm2) .nil))
  · cases P; rename_i a2 k2 k2' n2 vs2 hm2 P; cases P
    exact sortedL_two (x1 := Str.ofString "'c") (r1 := Str.ofString "'c") (x2 := Str.ofString "'d") (r2 := Str.ofString "'c") F N hl m1 (hX _ hm2) (by decide +kernel) fun D h' tk j F' N' o => h D h' tk _ j F' N' o (.cons m1 (.cons (hX _ hm2) .nil))
  · cases P
    exact sortedL_one F N hl fun D h' tk j F' N' o => h D h' tk _ j F' N' o (.cons m1 .nil)
end
end Mine
namespace Mine
section
variable {h₀ h : Heap} {L D : Addr} {all1 all2 : List (Addr × Obj)} {vs : List Value} {n : Nat} {ps : List (Str × Str)} {G : Prop}
theorem withDue (_ : News h₀ L h all2) (hl : (D, listOf vs.toArray n) ∈ all2) (P : PairAll all1 vs ps) (hs : ∀ p ∈ all1, p ∈ all2) (K : (D, listOf vs.toArray n) ∈ all2 → PairAll all2 vs ps → G) : G := K hl (P.mono hs)
end
theorem execsD {M : Model} {A : Around} {x : Stmt} {xs : List Stmt} {env : Env} {Q : Flow → Shared → Prop} {E : Value → Shared → Prop} {s : Shared} {h : Heap} {d : Drawn} {t : Nat}
    (H : wpAny M A (exec x env) (fun f s' => match f with | .next => wpAny M A (execs xs env) Q E s' | f => Q f s') E { heap := h, gens := s.gens, drawn := d, toks := t, os := s.os }) :
    wpAny M A (execs (x :: xs) env) Q E { heap := h, gens := s.gens, drawn := d, toks := t, os := s.os } := wpAny_execs_cons H
end Mine
end SL34
/-! PZ -/
section SPZ
open PySem.Spec PySem.Calls
namespace Mine
local macro_rules | `(tactic| walk_at "m:mem") => `(tactic| first | assumption | exact List.Mem.head _ | (with_reducible refine memTail ?_; walk_at "m:mem") | (with_reducible refine memR ?_; walk_at "m:mem") | (with_reducible refine memL ?_; walk_at "m:mem"))
local macro_rules | `(tactic| k_mem) => `(tactic| walk_at "m:mem")
local macro_rules | `(tactic| walk_at "m:el") => `(tactic| with_reducible first | exact memHead | (refine memTail ?_; walk_at "m:el") | (refine memR ?_; walk_at "m:el") | (refine memL ?_; walk_at "m:el"))
local macro_rules | `(tactic| walk_at "m:in") => `(tactic| with_reducible first | assumption | exact subRefl | exact subNil | (refine subCons ?_ ?_; (walk_at "m:el"); (walk_at "m:in")) | (refine subApp ?_ ?_; (walk_at "m:in"); (walk_at "m:in")) | (refine subTail ?_; walk_at "m:in") | (refine subR ?_; walk_at "m:in") | (refine subL ?_; walk_at "m:in"))
noncomputable def StopC : Prop := True
local macro_rules | `(tactic| walk_at "call ref") => `(tactic| (k_here; rename StopC => hStopC; refine Halt.go ?_))
local macro_rules | `(tactic| walk_at "compareOp NotEq ref ref") => `(tactic| (k_here; refine Halt.go ?_))
local macro_rules | `(tactic| walk_at "callWith ref") => `(tactic| (k_here; k_dflt (refine' callWith_K ?k1 ?k2 ?_; (case k1 => k_asm); (case k2 => k_is); k_whole)))
local macro_rules | `(tactic| walk_at "eval Tuple") => `(tactic| (k_here; k_fold))
local macro_rules | `(tactic| walk_at "eval List") => `(tactic| (k_here; k_fold))
local macro_rules | `(tactic| walk_at "pyIter ref") => `(tactic| (k_here; refine Halt.go ?_))
local macro_rules | `(tactic| walk_at "eval ListComp") => `(tactic| (k_here; refine Halt.go ?_))
local macro_rules | `(tactic| walk_at "binaryOp Add ref ref") => `(tactic| (k_here; refine Halt.go ?_))
local macro_rules | `(tactic| walk_at "call builtin:sorted") => `(tactic| (k_here; refine Halt.go ?_))
local macro_rules | `(tactic| walk_at "compareOp Eq ref ref") => `(tactic| (k_here; refine Halt.go ?_))
local macro_rules | `(tactic| walk_at "CompSrc") => `(tactic| (k_here; refine Halt.go ?_))
theorem poolX (c : Int) (P : Prop) [Decidable P] : 0 ≤ (if -1 - c > c then -1 - c else c) * (if P then 1 else 0) := by
  split <;> split <;> omega
inductive PoolEnd (h₀ : Heap) (L : Addr) (m : Str → Option Value) (all : List (Addr × Obj)) (s : Shared) : Value → Shared → Prop
  | mk (d' : SrcD) (h' : Heap) (tk : Nat) : d'.ok → Fr h₀ L h' m → News h₀ L h' (d'.obj :: all) → (∀ q ∈ all, q.1 < d'.src) → PoolEnd h₀ L m all s (.ref d'.src) { s with heap := h', toks := tk }
theorem pool_join {M : Model} {A : Around} {t : Sem Value} {Q E : Value → Shared → Prop} {s : Shared} {h₀ : Heap} {L : Addr} {m : Str → Option Value} {all : List (Addr × Obj)} (F : Fr h₀ L s.heap m) (N : News h₀ L s.heap all)
    (h : wpAny M A t (PoolEnd h₀ L m all s) E s)
    (k : ∀ (d' : SrcD) h' tk, d'.ok → Fr h₀ L h' m → News h₀ L h' (d'.obj :: all) → (∀ q ∈ all, q.1 < d'.src) → Q (.ref d'.src) { s with heap := h', toks := tk }) : wpAny M A t Q E s :=
  wpAny_mono h (fun v s' h => by obtain ⟨d', h', tk, a, b, c, d⟩ := h; exact k d' h' tk a b c d) fun _ _ e => e
theorem to_aside {src : Addr} {A all' tl : List (Addr × Obj)} {q : Addr × Obj} (h : ∀ p ∈ A, p ∈ all') (hn : ∀ p ∈ A, p.1 ≠ src) : ∀ p ∈ q :: (A ++ tl), p ∈ q :: (aside src all' ++ tl) := fun p hp => by
  rcases List.mem_cons.mp hp with rfl | hp
  · exact .head _
  · refine .tail _ ?_
    rcases List.mem_append.mp hp with hp | hp
    · exact memL (in_aside (h p hp) (hn p hp))
    · exact memR hp
noncomputable abbrev nT : Str := Str.ofString "T"
noncomputable abbrev nMany : Str := Str.ofString "many"
noncomputable abbrev nTurn : Str := Str.ofString "turn"
/-- the law's loop -/
inductive LoopJ (src : Addr) (bse : List (Addr × Obj)) (m₀ : Str → Option Value) (i : Nat) (m : Str → Option Value) (nx : List (Addr × Obj)) : Prop
  | mk (d : SrcD) (vT : Value) (t : Ty) (z : Int) (tkm : Tok) (u : Str → Option Value) (tl : List (Addr × Obj)) : d.ok → d.src = src → z = 190 + (i : Int) →
    m = (fun y => if y = nTurn then u y else if y = nT then some vT else if y = nMany then some (.int z tkm) else m₀ y) → nx = d.obj :: (bse ++ tl) → (∀ p ∈ tl, p.1 ≠ src) → TyIn (bse ++ tl) vT t → t.depth = 190 + i → t.ok → LoopJ src bse m₀ i m nx
theorem loop_end {h₀ h h' : Heap} {L : Addr} {m₀ m' : Str → Option Value} {bse tl own tlr NEL : List (Addr × Obj)} {d d' : SrcD} {src : Addr} {i : Nat} {r : Value} {t' : Ty} {z : Int} {tkz tkt : Tok} {kt : Int} {g : Array GenState} {dr : Drawn} {os : OsState} {tk tk' : Nat}
    (FE : Fr h₀ L h' m') (NE : News h₀ L h' NEL) (hsub : ∀ p ∈ d'.obj :: (aside d.src ((d.obj :: (bse ++ tl)) ++ own) ++ tlr), p ∈ NEL) (hd' : d'.ok) (hs' : d'.src = d.src) (hds : d.src = src)
    (o : ∀ q ∈ (d.obj :: (bse ++ tl)) ++ own, ∀ p ∈ tlr, q.1 < p.1) (hoff : TbOff own (d.obj :: (bse ++ tl))) (hb : ∀ p ∈ bse, p.1 ≠ src) (hlt : ∀ p ∈ tl, p.1 ≠ src) (hTr : TyIn ((bse ++ tl) ++ tlr) r t') (hdep : t'.depth = 190 + (i + 1)) (hok : t'.ok)
    (hz : z = 190 + (i : Int) + 1) {u : Str → Option Value} {x1 x2 : Option Value} (hm : m' = fun y => if y = nT then some r else if y = nMany then some (.int z tkz) else if y = nTurn then some (.int kt tkt) else (fun y => if y = nTurn then u y else if y = nT then x1 else if y = nMany then x2 else m₀ y) y) :
    TbEnd h₀ L (LoopJ src bse m₀ (i + 1)) own ⟨h, g, dr, tk, os⟩ ⟨h', g, dr, tk', os⟩ := by
  subst hds
  refine ⟨h', tk', m', NEL, d'.obj :: (bse ++ (tl ++ tlr)), rfl, FE, NE, fun p hp => hsub p ?_, fun p hp => hsub p ?_, fun p hp q hq => ?_, ⟨d', r, t', z, tkz, (fun _ => some (.int kt tkt)), tl ++ tlr, hd', hs', ?_, ?_, rfl, fun p hp => ?_, ?_, ?_, hok⟩⟩
  · rcases List.mem_cons.mp hp with rfl | hp
    · exact .head _
    · refine .tail _ ?_
      rcases List.mem_append.mp hp with hp | hp
      · exact memL (in_aside (memL (.tail _ (memL hp))) (hb p hp))
      · rcases List.mem_append.mp hp with hp | hp
        · exact memL (in_aside (memL (.tail _ (memR hp))) (hlt p hp))
        · exact memR hp
  · exact .tail _ (memL (in_aside (memR hp) (hoff p hp d.obj (.head _))))
  · rcases List.mem_cons.mp hq with rfl | hq
    · show p.1 ≠ d'.src
      rw [hs']; exact hoff p hp d.obj (.head _)
    · rw [← List.append_assoc] at hq
      rcases List.mem_append.mp hq with hq | hq
      · exact hoff p hp q (.tail _ hq)
      · exact Nat.ne_of_lt (o p (memR hp) q hq)
  · rw [hz]; push_cast; omega
  · rw [hm]
    have e1 : nTurn ≠ nMany := by decide
    have e2 : nTurn ≠ nT := by decide
    have e3 : nT ≠ nMany := by decide
    funext y
    by_cases h1 : y = nTurn
    · subst h1; simp [e1, e2]
    · by_cases h2 : y = nT
      · subst h2; simp [h1, e3]
      · by_cases h3 : y = nMany
        · subst h3; simp [h1, h2]
        · simp [h1, h2, h3]
  · rcases List.mem_append.mp hp with hp | hp
    · exact hlt p hp
    · exact Nat.ne_of_gt (o d.obj (memL (.head _)) p hp)
  · rw [← List.append_assoc]; exact hTr
  · exact hdep
theorem withM {h₀ h : Heap} {L : Addr} {m : Str → Option Value} {G : Prop} (F : Fr h₀ L h m) (k : ∀ m', m' = m → Fr h₀ L h m' → G) : G := k m rfl F
theorem loop0 {src : Addr} {bse : List (Addr × Obj)} {m₀ : Str → Option Value} {d : SrcD} {vT : Value} {t : Ty} {tkm : Tok} (hd : d.ok) (hs : d.src = src) (h1 : m₀ nT = some vT) (h2 : m₀ nMany = some (.int 190 tkm)) (hT : TyIn bse vT t) (hdep : t.depth = 190) (hok : t.ok) : LoopJ src bse m₀ 0 m₀ (d.obj :: bse) := by
  refine ⟨d, vT, t, 190, tkm, m₀, [], hd, hs, rfl, ?_, by rw [List.append_nil], (fun _ h => nomatch h), by rw [List.append_nil]; exact hT, hdep, hok⟩
  funext y
  split
  · rfl
  · split
    · rename_i h; rw [h]; exact h1
    · split
      · rename_i h; rw [h]; exact h2
      · rfl
theorem ne_self {prog : Program} {w : World} {A : Around} {E : Value → Shared → Prop} {s : Shared} {Q : Value → Shared → Prop} {c : Bool} (h : Q (.bool false) s) : wpAny (model prog w) A (compareOp .NotEq (.bool c) (.bool c)) Q E s := ne_bool (by rw [bne_self_eq_false]; exact h)
local macro_rules | `(tactic| walk_at "compareOp NotEq bool bool") => `(tactic| (k_here; refine Halt.go ?_))
theorem seeStr {l l' : List (Addr × Obj)} {D : Addr} {x : Str} {k : Tok} {n : Nat} {G : Prop} (e : l' = l) (hm : (D, listOf #[.str x k] n) ∈ l) (K : ∀ k n, (D, listOf #[.str x k] n) ∈ l' → G) : G := K _ _ (e ▸ hm)
local macro_rules | `(tactic| walk_at "eval IfExp") => `(tactic| (k_here; rename StopIf => hStopIf; refine Halt.go ?_))
theorem way_sub {X XC A tl : List (Addr × Obj)} {q : Addr × Obj} {src : Addr} (h : ∀ p ∈ X, p ∈ XC) (hne : ∀ p ∈ XC, p.1 ≠ src) (hA : ∀ p ∈ XC, p ∈ A) : ∀ p ∈ X, p ∈ q :: (aside src A ++ tl) := fun p hp => .tail _ (memL (in_aside (hA p (h p hp)) (hne p (h p hp))))
theorem eqI_pos {prog : Program} {w : World} {A : Around} {E : Value → Shared → Prop} {s : Shared} {Q : Value → Shared → Prop} {n : Nat} {t u : Tok} (h0 : 0 < n) (h : Q (.bool false) s) : wpAny (model prog w) A (compareOp .Eq (.int (n : Int) t) (.int 0 u)) Q E s := by
  refine PyProof.Rows.eq_int ?_
  have e : ((n : Int) == 0) = false := by
    have : (n : Int) ≠ 0 := by omega
    simpa using this
  rw [e]; exact h
theorem eqI_zero {prog : Program} {w : World} {A : Around} {E : Value → Shared → Prop} {s : Shared} {Q : Value → Shared → Prop} {t u : Tok} (h : Q (.bool true) s) : wpAny (model prog w) A (compareOp .Eq (.int ((0 : Nat) : Int) t) (.int 0 u)) Q E s := PyProof.Rows.eq_int h
local macro_rules | `(tactic| walk_at "compareOp Eq int int") => `(tactic| (k_here; refine Halt.go ?_))
theorem sub6 {a b d : Addr × Obj} {A X t : List (Addr × Obj)} (h : ∀ p ∈ a :: b :: X, p ∈ A) : ∀ p ∈ d :: a :: b :: (X ++ t), p ∈ (d :: A) ++ t := subCons (.head _) (subCons (memL (.tail _ (h _ (.head _)))) (subCons (memL (.tail _ (h _ (.tail _ (.head _))))) (subApp (fun p hp => memL (.tail _ (h p (.tail _ (.tail _ hp))))) (subR subRefl))))
theorem eqM {m m' : Str → Option Value} (e : m' = m) (n : Str) {v : Option Value} (h : m n = v) : m' n = v := by rw [e]; exact h
theorem boxes_depth (n : Nat) : (boxes n).depth = n + 1 := by
  induction n with
  | zero => rfl
  | succ n ih => simp [boxes, Ty.depth, ih]
theorem boxes_ok (n : Nat) : (boxes n).ok := by
  induction n with
  | zero => trivial
  | succ n ih => exact ih
structure PtZ where
  w : World
  s0 : Shared
  sB : Shared
  mg : Str → Option Value
  mb : Str → Option Value
  fa : Addr
  o : Obj
  pm : Value
  cd : Value
  doc : Value
  kV : Value
  x : List Int
  a4 : List Addr
  a3 : List Addr
  a : Addr
  vs : List Value
  a0 : List Addr
  h1 : Heap
structure CutZ where
  P : World → Shared → Shared → (Str → Option Value) → (Str → Option Value) → Addr → Obj → Value → Value → Value → Value → List Int → List Addr → List Addr → Addr → List Value → List Addr → Heap → Prop
  use : (∀ w s0 sB mg mb fa o pm cd doc kV x a4 a3 a vs a0 h1, P w s0 sB mg mb fa o pm cd doc kV x a4 a3 a vs a0 h1) → PySem.Challenge.rw_xw0159_01.Holds
set_option maxHeartbeats 4000000 in
noncomputable def cutZ : CutZ := by
  refine' ⟨_, fun kP => ?use⟩
  case use =>
   exact hd (by
      k_go0
      (all_goals try k_fold)
      rename Shared => sB
      have hSC : StopC := trivial
      k_steps
      refine Halt.mk ?_
      (rename StopC => hSC; clear hSC)
      (try k_fold)
      rename_i w s0 mg mb G Y fa o pm cd doc kV ho hcd hg X V T B TE TW x hs hlay0 hL1 hr1 hl2 a4 a3 a vs a0 hL ra w1h r0 hI hr hc1 hc2 hD h1 X' T' K' F' codeHd0 N' l0
      revert G Y ho hcd hg hT8 X V T B TE TW hT9 hs hlay0 hL1 hr1 hl2 hL ra w1h r0 hI hr hc1 hc2 hD X' T' K' F' lifted codeHd0 codeHd N' l0 qk ek
      exact kP w s0 sB mg mb fa o pm cd doc kV x a4 a3 a vs a0 h1)
noncomputable def pz0 : PtZ := ⟨pt0.w, {}, {}, fun _ => none, fun _ => none, default, default, default, default, default, default, [], [], [], default, [], [], default⟩
@[irreducible] noncomputable def z : PtZ := pick pz0 fun z => cutZ.P z.w z.s0 z.sB z.mg z.mb z.fa z.o z.pm z.cd z.doc z.kV z.x z.a4 z.a3 z.a z.vs z.a0 z.h1
set_option maxHeartbeats 4000000 in
theorem lawB : cutZ.P z.w z.s0 z.sB z.mg z.mb z.fa z.o z.pm z.cd z.doc z.kV z.x z.a4 z.a3 z.a z.vs z.a0 z.h1 := by
  intro G Y ho hcd hg hT8 X V T B TE TW hT9 hs hlay0 hL1 hr1 hl2 hL ra w1h r0 hI hr hc1 hc2 hD X' T' K' F' lifted codeHd0 codeHd N' l0 qk ek
  have hSC : StopC := trivial
  have hc := cLine_is
  k_dflt (refine' tellsX_use (c := levelsT) (d := 200) [] ?k1 ?k2 ?k3 ?k4 ?k5 ?kK (levels_tells _ _ _ _ _ _) ?hs ?kR ?kd ?ku ?_)
  (((case k1 => k_asm); (case k2 => k_asm); (case k3 => k_asm); (case k4 => k_asm); (case k5 => k_asm); (case kK => first | exact rfl | assumption)))
  case hs => walk_at "m:in"
  case kd => decide
  case ku => (show _ + 8 * 1 < cLine; rw [hc]; decide)
  case kR => exact ⟨_, rfl⟩
  intro v1 tl1 h1 tk1 F1 N1 o1 out1
  replace out1 : TyIn tl1 v1 (boxes 199) := out1
  simp only [List.cons_append, List.nil_append] at N1
  k_steps
  refine Halt.mk ?_
  (try k_fold)
  k_dflt (refine' tellsX_use (c := greatT) (d := boxes 199) tl1 ?k1 ?k2 ?k3 ?k4 ?k5 ?kK (is_too_great_tells _ _ _ _ _ _ _) ?hs ?kR ?kd ?ku ?_)
  (((case k1 => k_asm); (case k2 => k_asm); (case k3 => k_asm); (case k4 => k_asm); (case k5 => k_asm); (case kK => first | exact rfl | assumption)))
  case hs => walk_at "m:in"
  case kd => decide
  case ku => (show _ + 8 * 2 < cLine; rw [hc]; decide)
  case kR => exact ⟨.mk out1, boxes_ok _⟩
  intro r2 tl2 h2 tk2 F2 N2 o2 out2
  replace out2 : r2 = .bool false := out2.trans (by rw [boxes_depth]; rfl)
  subst out2
  simp only [List.cons_append, List.append_assoc] at N2
  k_steps
  refine Halt.mk ?_
  (try k_fold)
  rename News _ _ _ _ => NA
  k_dflt (refine' tellsT_use (s0 := none) (s1 := none) (d := 0) (ty := rC (boxes 199)) ?k1 ?k2 ?k3 NA ?k5 ?kK (told_tells _ _ _ _ _ _ 0 (rC (boxes 199)) none) ?hR ?hF ?xb ?tb ?t1 ?t0 ?hT ?z0 ?z1 ?ok (by decide) run_great trivial ?ku ?_)
  case k1 => k_asm
  case k2 => k_asm
  case k3 => k_asm
  case k5 => k_asm
  case kK => exact rfl
  case hR => k_asm
  case hF => k_asm
  case xb => k_asm
  case tb => k_asm
  case t1 => k_mem
  case t0 => k_mem
  case hT => exact .adtR (by k_mem) (by k_mem) (by k_mem) (out1.mono (by walk_at "m:in"))
  case z0 => trivial
  case z1 => trivial
  case ok => exact ⟨by decide +kernel, boxes_ok _⟩
  case ku => (show _ + 3000 < cLine; rw [hc]; decide)
  intro r3 s0a s1a tl3 h3 dr3 tk3 F3 N3 o3 a3 b3 out3
  obtain ⟨k3, rfl⟩ := out3
  clear out1 o1 o2 o3
  generalize strip _ ++ tl3 = X3 at N3 a3 b3
  k_steps
  refine Halt.mk ?_
  (try k_fold)
  rename News _ _ _ _ => NB
  k_dflt (refine' tellsT_use (s0 := s0a) (s1 := s1a) (d := 0) (ty := rC argU) ?k1 ?k2 ?k3 NB ?k5 ?kK (told_tells _ _ _ _ _ _ 0 (rC argU) _) ?hR ?hF ?xb ?tb ?t1 ?t0 ?hT ?z0 ?z1 ?ok (by decide) run_U0 ?fit ?ku ?_)
  case k1 => k_asm
  case k2 => k_asm
  case k3 => k_asm
  case k5 => k_asm
  case kK => exact rfl
  case hR => k_asm
  case hF => k_asm
  case xb => k_asm
  case tb => k_asm
  case t1 => k_mem
  case t0 => k_mem
  case hT => exact .adtR (by k_mem) (by k_mem) (by k_mem) (.par (by k_mem))
  case z0 => exact a3.mono (by walk_at "m:in")
  case z1 => exact b3.mono (by walk_at "m:in")
  case ok => exact ⟨by decide +kernel, by show PyData.strOk _ = true; decide +kernel⟩
  case fit => exact .inr ⟨_, rfl, by decide +kernel⟩
  case ku => (show _ + 3000 < cLine; rw [hc]; decide)
  intro r4 s0b s1b tl4 h4 dr4 tk4 F4 N4 o4 a4 b4 out4
  refine ToldOut.someE out4 fun l4 vs4 n4 er4 hm4 hP4 => ?_
  subst er4
  clear o4 a3 b3 out4
  generalize strip _ ++ tl4 = X4 at N4 a4 b4 hm4 hP4
  refine PairAll.e2 hP4 fun a1 ka ka' na a2 kb kb' nb ev4 hm1 hm2 => ?_
  subst ev4
  clear hP4
  k_steps
  refine Halt.mk ?_
  (try k_fold)
  rename News _ _ _ _ => NC
  k_dflt (refine pairs_ne (vs := [.ref a1, .ref a2]) (ps := [pc, (Str.ofString "U", Str.ofString "'c")]) (qs := [pc, (Str.ofString "U", Str.ofString "'c")]) NC (by k_mem) (by k_mem) (.cons (by k_mem) (.cons (by k_mem) .nil)) (ws := [.ref _, .ref _]) (.cons (by k_mem) (.cons (by k_mem) .nil)) (by decide +kernel) (by decide +kernel) (by decide +kernel) ?ku ?_)
  case ku => (simp only [units_deeper, units_caller]; rw [hc]; decide)
  have hev : PyData.eqv (pairsD [pc, (Str.ofString "U", Str.ofString "'c")]) (pairsD [pc, (Str.ofString "U", Str.ofString "'c")]) = true := by decide +kernel
  rw [hev]
  clear hm1 hm2 hm4
  k_steps
  refine Halt.mk ?_
  (try k_fold)
  rename News _ _ _ _ => ND
  rename Fr _ _ _ _ => FD
  refine withL2 ND fun ALL0 hALL0 ND0 => ?_
  have sub0 := subEq (X := (101, tabOf 72 4 s1b) :: (80, tabOf 47 4 s0b) :: X4) hALL0 (by walk_at "m:in")
  clear ND hALL0
  k_dflt (refine pool_join FD ND0 ?_ ?_)
  · (rename StopC => hSC; clear hSC)
    have hSI0 : StopIf := trivial
    k_steps
    refine Halt.mk ?_
    (rename StopIf => hS9; clear hS9)
    refine ifexp_any ?_ ?_
    · k_steps
      all_goals exact ⟨⟨_, _, rfl⟩, _, rfl⟩
    intro c9 tc9 tc9'
    (try k_fold)
    k_steps
    all_goals (
      rename_i lS hS FS NS l1S kFS kNS _ _
      refine PoolEnd.mk ⟨lS, _, _, _, _, 0⟩ hS _ ⟨?_, ?_, ?_⟩ kFS kNS ?_
      · first | exact poolX _ _ | decide | (dsimp only; omega)
      · first | exact Int.fmod_nonneg_of_pos _ (by decide) | (dsimp only; decide)
      · first | exact Int.fmod_lt_of_pos _ (by decide) | (dsimp only; decide)
      · exact l1S)
  intro d5 h5 tk5 hd5 F5 N5 o5
  k_steps
  refine Halt.mk ?_
  (try k_fold)
  k_dflt (refine' tellsX_use (c := levelsT) (d := 190) [] ?k1 ?k2 ?k3 ?k4 ?k5 ?kK (levels_tells190 _ _ _ _ _ _) ?hs ?kR ?kd ?ku ?_)
  (((case k1 => k_asm); (case k2 => k_asm); (case k3 => k_asm); (case k4 => k_asm); (case k5 => k_asm); (case kK => first | exact rfl | assumption)))
  case hs => walk_at "m:in"
  case kd => decide
  case ku => (simp only [units_deeper, units_caller]; rw [hc]; decide)
  case kR => exact ⟨_, rfl⟩
  intro v6 tl6 h6 tk6 F6 N6 o6 out6
  replace out6 : TyIn tl6 v6 (boxes 189) := out6
  replace N6 := nsub (l' := d5.obj :: (101, tabOf 72 4 s1b) :: (80, tabOf 47 4 s0b) :: (X4 ++ tl6)) N6 (sub6 sub0)
  have oS : ∀ q ∈ (101, tabOf 72 4 s1b) :: (80, tabOf 47 4 s0b) :: X4, q.1 < d5.src := fun q hq => o5 q (sub0 q hq)
  have oT6 : ∀ p ∈ tl6, d5.src < p.1 := fun p hp => o6 d5.obj (by walk_at "m:el") p hp
  clear o5 o6
  k_steps
  refine Halt.mk ?_
  (try k_fold)
  rename News _ _ _ _ => N7
  rename_i lL _ _ _ l1L
  k_dflt (refine oneA_use d5 [.int 8 _, .int 9 _, .int 10 _, .int 11 _] rfl (n := 0) (by k_asm) (by k_asm) (by k_asm) N7 (by k_asm) (by rfl) (by k_mem) hd5 (Nat.le_of_ble_eq_true rfl) (Nat.le_of_ble_eq_true rfl) (by k_mem) (Nat.ne_of_gt l1L.2.1) ?kd ?ku ?_)
  case kd => (show 302 + 3 < recursionLimit; decide)
  case ku => (simp only [units_deeper, units_caller]; rw [hc]; decide)
  intro r7 d7 tl7 h7 tk7 hd7 hs7 F7 N7' o7 hr7
  obtain ⟨n, kn, hn8, hn11, rfl⟩ : ∃ (n : Nat) (kn : Tok), 8 ≤ n ∧ n ≤ 11 ∧ r7 = .int (n : Int) kn := by
    simp only [List.mem_cons, List.not_mem_nil, or_false] at hr7
    rcases hr7 with rfl | rfl | rfl | rfl
    · exact ⟨8, _, by decide, by decide, rfl⟩
    · exact ⟨9, _, by decide, by decide, rfl⟩
    · exact ⟨10, _, by decide, by decide, rfl⟩
    · exact ⟨11, _, by decide, by decide, rfl⟩
  have hoff6 : ∀ p ∈ (101, tabOf 72 4 s1b) :: (80, tabOf 47 4 s0b) :: (X4 ++ tl6), p.1 ≠ d5.src := by
    intro p hp
    rcases List.mem_cons.mp hp with rfl | hp
    · exact Nat.ne_of_lt (oS _ (.head _))
    · rcases List.mem_cons.mp hp with rfl | hp
      · exact Nat.ne_of_lt (oS _ (.tail _ (.head _)))
      · rcases List.mem_append.mp hp with hp | hp
        · exact Nat.ne_of_lt (oS _ (.tail _ (.tail _ hp)))
        · exact Nat.ne_of_gt (oT6 p hp)
  have N8 := nsub N7' (to_aside (A := (101, tabOf 72 4 s1b) :: (80, tabOf 47 4 s0b) :: (X4 ++ tl6)) (by walk_at "m:in") hoff6)
  have hoff8 : ∀ p ∈ ((101, tabOf 72 4 s1b) :: (80, tabOf 47 4 s0b) :: (X4 ++ tl6)) ++ tl7, p.1 ≠ d7.src := by
    intro p hp
    rw [hs7]
    rcases List.mem_append.mp hp with hp | hp
    · exact hoff6 p hp
    · exact Nat.ne_of_gt (o7 d5.obj (by k_mem) p hp)
  clear N7' N7 o7 oS oT6 hr7 hoff6 l1L
  simp only [List.cons_append, List.append_assoc] at N8 hoff8
  have out8 : TyIn (X4 ++ (tl6 ++ tl7)) v6 (boxes 189) := out6.mono (by walk_at "m:in")
  replace a4 : TabOk q80 (X4 ++ (tl6 ++ tl7)) s0b := a4.mono (by walk_at "m:in")
  replace b4 : TabOk q101 (X4 ++ (tl6 ++ tl7)) s1b := b4.mono (by walk_at "m:in")
  clear out6
  generalize X4 ++ (tl6 ++ tl7) = X8 at N8 hoff8 out8 a4 b4
  k_steps
  refine Halt.mk ?_
  (try k_fold)
  rename_i hX tkX _ _ _ rgX FR NR keepR
  have hn : n = 8 ∨ n = 9 ∨ n = 10 ∨ n = 11 := by omega
  have hsm : Builtin.Range.small 0 (n : Int) 1 = true := by rcases hn with rfl | rfl | rfl | rfl <;> decide
  have hsz : Builtin.Range.rangeSize 0 (n : Int) 1 = (n : Int) := by rcases hn with rfl | rfl | rfl | rfl <;> decide
  refine withM FR fun m₀ hm₀ FR' => ?_
  refine' tbr_invG (n := n) (LoopJ d7.src ((101, tabOf 72 4 s1b) :: (80, tabOf 47 4 s0b) :: X8) m₀) ?hh rgX hsm hsz FR' NR ?hj ?turn ?done
  case hh => rfl
  case hj => exact loop0 hd7 rfl (eqM hm₀ _ rfl) (eqM hm₀ _ rfl) (out8.mono (by walk_at "m:in")) (by rw [boxes_depth]) (boxes_ok _)
  case turn =>
    rintro i k t m₁ nx h tk own hik hoff ⟨d, vT, ty, z, tkm, u, tl, hdok, hds, hz, rfl, rfl, hlt, hTt, hdep, htok⟩ F9 N9
    subst hm₀
    clear keepR FR FR' NR rgX out8 a4 b4
    (try k_fold)
    k_steps
    refine Halt.mk ?_
    (try k_fold)
    k_dflt (refine aroundA_use d ty ((101, tabOf 72 4 s1b) :: (80, tabOf 47 4 s0b) :: X8 ++ tl) (hds.trans hs7).symm (by k_asm) (by k_asm) (by k_asm) N9 (by k_asm) (by rfl) (by k_mem) hdok htok (fun p hp => memL (.tail _ hp)) ?hc2 hTt ?kd ?ku ?_)
    case hc2 =>
      intro p hp
      rw [hds]
      rcases List.mem_append.mp hp with hp | hp
      · exact hoff8 p hp
      · exact hlt p hp
    case kd => (show 302 + 6 < recursionLimit; decide)
    case ku => (simp only [units_deeper, units_caller]; rw [hc]; decide)
    intro r10 t10 d10 tl10 h10 tk10 hd10 hs10 F10 N10 o10 hT10 hdep10 hok10
    k_steps
    rename News _ _ _ _ => NE
    rename Fr _ _ _ _ => FE
    have hdepN : t10.depth = 190 + (i + 1) := by omega
    have hzN : z + 1 = 190 + (i : Int) + 1 := by rw [hz]
    exact loop_end (u := u) (x1 := some vT) (x2 := some (.int z tkm)) (d := d) (tlr := tl10) FE NE (by walk_at "m:in") hd10 hs10 hds o10 hoff hoff8 hlt hT10 hdepN hok10 hzN rfl
  case done =>
    rintro m₁ nx h tk ⟨d, vT, ty, z, tkm, u, tl, hdok, hds, hz, rfl, rfl, hlt, hTt, hdep, htok⟩ F9 N9
    subst hm₀
    clear keepR FR FR' NR rgX out8 hsm hsz
    (try k_fold)
    k_steps
    refine Halt.mk ?_
    (try k_fold)
    k_dflt (refine' tellsX_use (c := greatT) (d := ty) ((101, tabOf 72 4 s1b) :: (80, tabOf 47 4 s0b) :: X8 ++ tl) ?k1 ?k2 ?k3 ?k4 ?k5 ?kK (is_too_great_tells _ _ _ _ _ _ _) ?hs ?kR ?kd ?ku ?_)
    (((case k1 => k_asm); (case k2 => k_asm); (case k3 => k_asm); (case k4 => k_asm); (case k5 => k_asm); (case kK => first | exact rfl | assumption)))
    case hs => exact fun p hp => .tail _ hp
    case kd => (show 302 + 2 < recursionLimit; decide)
    case ku => (simp only [units_deeper, units_caller]; rw [hc]; decide)
    case kR => exact ⟨.mk hTt, htok⟩
    intro r11 tl11 h11 tk11 F11 N11 o11 out11
    replace out11 : r11 = .bool (decide (200 < z)) := out11.trans (by
      congr 1
      refine decide_eq_decide.mpr ?_
      rw [hdep, hz]
      omega)
    subst out11
    simp only [List.cons_append, List.append_assoc] at N11
    k_steps
    refine Halt.mk ?_
    refine ne_self ?_
    k_steps
    refine Halt.mk ?_
    (try k_fold)
    rename_i c6 _ _ _ _ l3 _ g3 c5 _ _ _ _ _ _ _ _ c4 _ _ c3 _ _ _ _ l2 _ g2 c2 _ _ _ _ _ _ c1 _ _ _ _ l1 _ g1 c0 _ _ lL _ FO NO gL
    refine withL2 NO fun ALL hALL NO' => ?_
    have q5 : (c5, tupO [.ref c6, .ref l3] 0) ∈ ALL := memEq hALL (by k_mem)
    have q2 : (c2, tupO [.ref c3, .ref l2] 0) ∈ ALL := memEq hALL (by k_mem)
    have q0 : (c0, tupO [.ref c1, .ref l1] 0) ∈ ALL := memEq hALL (by k_mem)
    have p1 : (l1, listOf #[] 0) ∈ ALL := memEq hALL (by k_mem)
    have pL : (lL, listOf [Value.ref c5, .ref c2, .ref c0].toArray 0) ∈ ALL := memEq hALL (by k_mem)
    refine seeStr (D := l3) (x := Str.ofString "U") hALL (by k_mem) fun k3 n3 p3 => ?_
    refine seeStr (D := l2) (x := Str.ofString "'d") hALL (by k_mem) fun k2 n2 p2 => ?_
    have tU : TyIn ALL (.ref c6) argU := .par (memEq hALL (by k_mem))
    have tD : TyIn ALL (.ref c3) argD := .rf (memEq hALL (by k_mem)) (.bool (memEq hALL (by k_mem)))
    have tB : TyIn ALL (.ref c1) .bool := .bool (memEq hALL (by k_mem))
    have hdA : d.obj ∈ ALL := memEq hALL (by k_mem)
    have sub8 : ∀ p ∈ (101, tabOf 72 4 s1b) :: (80, tabOf 47 4 s0b) :: X8, p ∈ ALL := subEq hALL (by walk_at "m:in")
    have w3 : @Ne Nat l3 d.src := by omega
    have w2 : @Ne Nat l2 d.src := by omega
    have w1 : @Ne Nat l1 d.src := by omega
    have wL : @Ne Nat lL d.src := by omega
    clear hALL NO F9 N9 o11 gL g1 g2 g3 hTt
    k_dflt (refine oneA_use d [.ref c5, .ref c2, .ref c0] (hds.trans hs7).symm (n := 0) (by k_asm) (by k_asm) (by k_asm) NO' (by k_asm) (by rfl) hdA hdok (Nat.le_of_ble_eq_true rfl) (Nat.le_of_ble_eq_true rfl) pL wL ?kd ?ku ?_)
    case kd => (show 302 + 3 < recursionLimit; decide)
    case ku => (simp only [units_deeper, units_caller]; rw [hc]; decide)
    intro r12 d12 tl12 h12 tk12 hd12 hs12 F12 N12 o12 hr12
    replace q5 := memL (r := tl12) (tup_aside NO' hdA q5)
    replace q2 := memL (r := tl12) (tup_aside NO' hdA q2)
    replace q0 := memL (r := tl12) (tup_aside NO' hdA q0)
    replace p1 := memL (r := tl12) (in_aside (a := d.src) p1 w1)
    replace p2 := memL (r := tl12) (in_aside (a := d.src) p2 w2)
    replace p3 := memL (r := tl12) (in_aside (a := d.src) p3 w3)
    replace tU := (tU.aside NO' hdA).app (tl := tl12)
    replace tD := (tD.aside NO' hdA).app (tl := tl12)
    replace tB := (tB.aside NO' hdA).app (tl := tl12)
    have sub12 : ∀ p ∈ (101, tabOf 72 4 s1b) :: (80, tabOf 47 4 s0b) :: X8, p ∈ aside d.src ALL ++ tl12 := fun p hp => memL (in_aside (sub8 p hp) (by rw [hds]; exact hoff8 p hp))
    have hne12 : ∀ p ∈ aside d.src ALL ++ tl12, p.1 ≠ d12.src := fun p hp => by
      rw [hs12]
      rcases List.mem_append.mp hp with hp | hp
      · exact (aside_mem hp).2
      · exact Nat.ne_of_gt (o12 d.obj hdA p hp)
    have t101 := sub12 (101, tabOf 72 4 s1b) (.head _)
    have t80 := sub12 (80, tabOf 47 4 s0b) (.tail _ (.head _))
    replace a4 : TabOk q80 (aside d.src ALL ++ tl12) s0b := a4.mono fun p hp => sub12 p (.tail _ (.tail _ hp))
    replace b4 : TabOk q101 (aside d.src ALL ++ tl12) s1b := b4.mono fun p hp => sub12 p (.tail _ (.tail _ hp))
    clear o12 sub12 sub8 NO' hdA pL
    generalize aside d.src ALL ++ tl12 = XC at N12 q5 q2 q0 p1 p2 p3 tU tD tB t101 t80 a4 b4 hne12
    have eS : d12.src = d5.src := hs12.trans (hds.trans hs7)
    have hSI : StopIf := trivial
    simp only [List.mem_cons, List.not_mem_nil, or_false] at hr12
    obtain ⟨cT, cA, cl, ty9, vs0, xs0, n0, e12, qT, pT, tT, hS0, cC⟩ : ∃ (cT cA cl : Addr) (ty9 : Ty) (vs0 : List Value) (xs0 : List Str) (n0 : Nat), r12 = .ref cT ∧ (cT, tupO [.ref cA, .ref cl] 0) ∈ XC ∧ (cl, listOf vs0.toArray n0) ∈ XC ∧ TyIn XC (.ref cA) ty9 ∧ StrAll vs0 xs0 ∧ ArgC ty9 xs0 := by
      rcases hr12 with rfl | rfl | rfl
      · exact ⟨c5, c6, l3, argU, [.str (Str.ofString "U") k3], _, n3, rfl, q5, p3, tU, .cons .nil, .u⟩
      · exact ⟨c2, c3, l2, argD, [.str (Str.ofString "'d") k2], _, n2, rfl, q2, p2, tD, .cons .nil, .d⟩
      · exact ⟨c0, c1, l1, .bool, [], _, 0, rfl, q0, p1, tB, .nil, .b⟩
    subst e12
    clear q5 q2 q0 p1 p2 p3 tU tD tB hr12
    replace N12 := nsub (l' := (cT, tupO [.ref cA, .ref cl] 0) :: (cl, listOf vs0.toArray n0) :: (d5.src, listOf #[.int d12.x d12.k, .int d12.y d12.k'] d12.n) :: (101, tabOf 72 4 s1b) :: (80, tabOf 47 4 s0b) :: XC) N12 (subCons (.tail _ qT) (subCons (.tail _ pT) (subCons (by rw [← eS]; exact .head _) (subCons (.tail _ t101) (subCons (.tail _ t80) (subTail subRefl))))))
    k_steps
    refine Halt.mk ?_
    (try k_fold)
    (rename StopIf => hSx; clear hSx)
    rename Fr _ _ _ _ => FW
    rename News _ _ _ _ => NW
    have subX : ∀ p ∈ (cT, tupO [.ref cA, .ref cl] 0) :: (cl, listOf vs0.toArray n0) :: (101, tabOf 72 4 s1b) :: (80, tabOf 47 4 s0b) :: XC, p ∈ XC := subCons qT (subCons pT (subCons t101 (subCons t80 subRefl)))
    k_dflt (refine way_join (X := (cT, tupO [.ref cA, .ref cl] 0) :: (cl, listOf vs0.toArray n0) :: (101, tabOf 72 4 s1b) :: (80, tabOf 47 4 s0b) :: XC) FW ?_ ?_)
    · k_steps
      · refine Halt.mk ?_
        (try k_fold)
        rename News _ _ _ _ => NV
        k_dflt (refine takeA_use d12 4 (hs12.trans (hds.trans hs7)).symm (by k_asm) (by k_asm) (by k_asm) NV (by k_asm) (by rfl) (by show (d12.src, _) ∈ _; rw [eS]; k_mem) hd12 (by decide) (by decide) ?kd ?ku ?_)
        case kd => (show 302 + 1 < recursionLimit; decide)
        case ku => (simp only [units_deeper, units_caller]; rw [hc]; decide)
        intro z13 kz13 d13 tl13 h13 tk13 hd13 hs13 F13 N13 o13 hz0 hz4
        exact WayEnd.mk _ _ _ _ hz0 hz4 F13 (nsub N13 (way_sub subX hne12 (by walk_at "m:in")))
      · exact WayEnd.mk 0 _ _ _ (by decide) (by decide) (by assumption) (nsub NW (by walk_at "m:in"))
    intro nW kW hW tkW hn3 FWW NWW
    clear FW NW
    k_steps
    refine Halt.mk ?_
    (try k_fold)
    k_dflt (refine LCg.ListComp_U (F₀ := by k_asm) (by with_unfolding_all rfl) (by decide) (by rfl) (by decide) (by rfl) ?_)
    k_steps
    refine Halt.mk ?_
    (try k_fold)
    rename Fr _ _ _ _ => FZ
    rename News _ _ _ _ => NZ
    k_dflt (refine LCg.CompSrc.ledger (its := vs0.toArray) (k := n0) rfl FZ NZ (by k_mem) ?hz ?_)
    case hz => exact cC.small hS0
    intro g9
    refine compRest_pairs (vs0 := vs0) (xs0 := xs0) (r := Str.ofString "'c") hS0 ?elt ?src ?fin
    case src => exact fun tlc => .inr ⟨_, memL (by k_mem), rfl, _, rfl⟩
    case elt =>
      intro x1 tk1 tlc ys I oI C oC2 D m2 hcc tkc Ec hNs hx2 Fc Nc offc nec
      (try k_fold)
      k_steps
      (try dsimp only)
      repeat' (k_unfold; (try dsimp only))
      rename Fr _ _ _ _ => FT
      rename News _ _ _ _ => NT
      rename_i lT
      exact ⟨_, _, _, _, _, _, rfl, rfl, FT, NT, ktn_ltOf lT⟩
    case fin =>
      intro ys tlc hord hPA
      unfold LCg.FinE
      intro D4 h4 tk4 F4 N4 o4
      k_steps
      refine Halt.mk ?_
      (try k_fold)
      rename Fr _ _ _ _ => FY
      rename News _ _ _ _ => NY
      k_dflt (refine my_add (vs := [.ref _]) (ws := ys) FY NY (by k_mem) (by k_mem) ?hz ?_)
      case hz => exact cC.short hPA
      intro D5 h5 F5 N5 l5
      k_steps
      refine Halt.mk ?_
      (try k_fold)
      rename Fr _ _ _ _ => FX
      rename News _ _ _ _ => NX
      k_dflt (refine sortedL_due cC FX NX (l := D5) (by k_mem) (by k_mem) hPA (by walk_at "m:in") ?_)
      intro D6 h6 tk6 vsD cc6 F6 N6 l6 hPD9
      k_steps
      refine Halt.mk ?_
      (try k_fold)
      rename News _ _ _ _ => NT
      refine withDue (D := D6) NT (by k_mem) hPD9 (by walk_at "m:in") fun mD hPD => ?_
      clear hPD9
      k_dflt (refine' tellsT_use (s0 := s0b) (s1 := s1b) (d := nW) (ty := rC ty9) ?k1 ?k2 ?k3 NT ?k5 ?kK (told_tells _ _ _ _ _ _ nW (rC ty9) (if nW = 0 then some (due xs0) else none)) ?hR ?hF ?xb ?tb ?t1 ?t0 ?hT ?z0 ?z1 ?ok hn3 (cC.res nW hn3).1 (cC.res nW hn3).2 ?ku ?_)
      case k1 => k_asm
      case k2 => k_asm
      case k3 => k_asm
      case k5 => k_asm
      case kK => exact rfl
      case hR => k_asm
      case hF => k_asm
      case xb => k_asm
      case tb => k_asm
      case t1 => k_mem
      case t0 => k_mem
      case hT => exact .adtR (by k_mem) (by k_mem) (by k_mem) (tT.mono (by walk_at "m:in"))
      case z0 => exact a4.mono (by walk_at "m:in")
      case z1 => exact b4.mono (by walk_at "m:in")
      case ok => exact cC.ok
      case ku => (simp only [units_deeper, units_caller]; rw [hc]; decide)
      intro r14 s0e s1e tl14 h14 dr14 tk14 F14 N14 o14 a14 b14 out14
      replace mD := memL (r := tl14) (list_strip (s0 := s0b) (s1 := s1b) NT (by k_mem) (by k_mem) mD)
      replace hPD := (hPD.strip (s0 := s0b) (s1 := s1b) NT (by k_mem) (by k_mem)).mono fun p hp => memL (r := tl14) hp
      clear NT o14
      generalize strip _ ++ tl14 = XE at N14 a14 b14 out14 mD hPD
      obtain ⟨ps1, eps1⟩ : ∃ ps, tabOf 72 4 s1e = tabObj ps := by cases s1e <;> exact ⟨_, rfl⟩
      obtain ⟨ps0, eps0⟩ : ∃ ps, tabOf 47 4 s0e = tabObj ps := by cases s0e <;> exact ⟨_, rfl⟩
      rw [eps1, eps0] at N14
      clear a14 b14 eps1 eps0 a4 b4 tT qT pT t101 t80 subX hne12
      rcases Nat.eq_zero_or_pos nW with h0 | h0
      · subst h0
        rw [if_pos rfl] at out14
        refine ToldOut.someE out14 fun l15 vs15 n15 er15 hm15 hP15 => ?_
        subst er15
        k_steps
        refine Halt.mk ?_
        refine eqI_zero ?_
        k_steps
        refine Halt.mk ?_
        (try k_fold)
        rename News _ _ _ _ => NF
        k_dflt (refine pairs_eq (vs := vs15) (ws := vsD) NF (memOf (by walk_at "m:in") hm15) (memOf (by walk_at "m:in") mD) (hP15.mono (by walk_at "m:in")) (hPD.mono (by walk_at "m:in")) cC.lay cC.lay cC.dep ?ku ?_)
        case ku => (simp only [units_deeper, units_caller]; rw [hc]; decide)
        rw [cC.ev]
        k_steps
      · rw [if_neg (Nat.ne_of_gt h0)] at out14
        obtain ⟨k15, rfl⟩ := out14
        k_steps
        refine Halt.mk ?_
        refine eqI_pos h0 ?_
        k_steps
theorem lawIt : PySem.Challenge.rw_xw0159_01.Holds := cutZ.use fun w s0 sB mg mb fa o pm cd doc kV x a4 a3 a vs a0 h1 => pick_is (P := fun z => cutZ.P z.w z.s0 z.sB z.mg z.mb z.fa z.o z.pm z.cd z.doc z.kV z.x z.a4 z.a3 z.a z.vs z.a0 z.h1) (a := pz0) (by delta z; rfl) lawB ⟨w, s0, sB, mg, mb, fa, o, pm, cd, doc, kV, x, a4, a3, a, vs, a0, h1⟩
end Mine
end SPZ
set_option maxRecDepth 100000 in
set_option maxHeartbeats 8000000 in
theorem PySem.Challenge.cw_xw0159_01_holds : PySem.Challenge.rw_xw0159_01.Holds :=
  Mine.lawIt
