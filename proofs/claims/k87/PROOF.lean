import PyProof.Rows.All
import Wide.All
import OpenK.AllK
import Wide.FinOn
import HandS.ForMost
import HandS.Evl
import HandS.DictComp
import HandS.SortKw
import HandS.Conv
import HandS.IsInst
import HandS.Flow
import HandS.Defaults
import HandS.Lambda
import KE.SortKeyHeap
import HandS.Walk
import PyProof.TupleOfGen
import KE.KDictSum
import KE.GoesMore
import HandS.More
import KE.GoesEnum
import HandS.Text
import PyProof.StrOps2
import HandS.TupMul
import HandS.ExcSuper
import HandS.ExcInit
import KE.KExcSuper
import HandS.ForExc
import HandS.HotCalls
import HandS.ExcIs
import HandS.ExcField
import KE.KExcIs
import HandS.NoneIn
import HandS.Codes
import HandS.Rev
import PyProof.ListNew
import HandS.ExcCtx
import HandS.Deep
import KE.DataCmp
import HandS.CallSlots
import KE.KNestM
import HandS.MakeKw
import PySem.Challenge.RW_rulesonrules_k87_great_terms_shared
set_option Elab.async false
set_option linter.all false
set_option maxRecDepth 100000
set_option maxHeartbeats 4000000
-- KSort
/-! sorted(xs, key=f) of texts over the hand layer; max with a default -/
namespace KSort
open PySem PySem.Spec PyProof.Rows L2
section
variable {X : Cx} {pins : List (Addr × Obj)} {σ : L2.St} {H : Hp} {s : Shared}
/-- the value is this text -/
def TxtOf (v : Value) (x : Str) : Prop := ∃ t, v = Value.str x t
theorem each_txt : ∀ {ss : List Str} {us : List Value}, Vals (ss.map V.str) us → PySem.W.EachIs TxtOf us ss
  | [], us, h => by
    cases us with
    | nil => exact .nil
    | cons u us => cases h
  | x :: ss, us, h => by
    cases us with
    | nil => cases h
    | cons u us =>
      cases h with
      | cons r t => exact .cons r (each_txt t)
theorem vals_txt : ∀ {ss : List Str} {us : List Value}, PySem.W.EachIs TxtOf us ss → Vals (ss.map V.str) us
  | _, _, .nil => .nil
  | _, _, .cons r t => .cons r (vals_txt t)
/-- the sort by a key that is pure at each of the texts -/
theorem sorted_by_run {a f : Addr} {ss : List Str} {k : Str → PyData} {Q : VK} (I : Inv X pins σ H s) (hs : SqL X.K H a (ss.map V.str)) (hal : PySem.W.AllAlike (ss.map k)) (hso : PySem.W.Sortable (ss.map k))
    (hu : ∀ x ∈ ss, X.A.units + 2 + (k x).depth < cLine)
    (turn : ∀ x ∈ ss, ∀ (t : Tok) (h : Heap) (tk : Nat), (∀ b o, s.heap.get? b = some o → h.get? b = some o) →
      wpAny (model X.prog X.w) X.A.in1.in1 (call (.ref f) [.str x t]) (PySem.W.KeyPure (k x) { s with heap := h, toks := tk }) (fun _ _ => False) { s with heap := h, toks := tk })
    (q : ∀ p, H p = none → Q (.ref p) (upd H p (.lst ((ss.mergeSort (PySem.W.dataLe false k)).map V.str)))) :
    wpAny (model X.prog X.w) X.A (call (.builtin "sorted") [.ref a] [(Str.ofString "key", .ref f)]) (EP X pins σ Q) X.xe s := by
  obtain ⟨its, rv, hl, hz⟩ := I.list hs
  have hz' : ss.length ≤ sizeLine := by
    rw [List.length_map] at hz
    exact hz
  refine PySem.W.sorted_key_data (b := false) (R := TxtOf) k hl.isList (each_txt rv) hal hso hz' hu (ksk_s1 _ _) (fun _ => ksk_l1 _ _) (fun x => ksk_t1 f x) ?_ ?_
  · rintro v x ⟨t, rfl⟩ hx h tk hk
    exact turn x hx t h tk hk
  · intro out c h' tk hk fresh hD hlen hE
    have hv := vals_txt hE
    refine ⟨.ref (s.heap.objs.size + 1), upd H (s.heap.objs.size + 1) (.lst ((ss.mergeSort (PySem.W.dataLe false k)).map V.str)), I.laid hk (Nat.le_succ _) ?_, rfl, q _ (I.hok.fresh (Nat.le_succ _))⟩
    refine ⟨?_, out, c, hv, hD⟩
    rw [List.length_map, List.length_mergeSort]
    exact hz'
end
end KSort
-- KPure
/-! pure expressions of one call: they keep all objects that stood -/
namespace KPure
open PySem PySem.Spec PyProof.Rows L2
section
variable {P : Program} {w : World} {A : Around} {E : Value → Shared → Prop} {env : Env} {s₀ : Shared} {L : Addr} {m : Str → Option Value}
/-- the expression's value, from any state of this call -/
def PV (P : Program) (w : World) (A : Around) (E : Value → Shared → Prop) (env : Env) (s₀ : Shared) (L : Addr) (m : Str → Option Value) (e : Expr) (W : Heap → Value → Prop) : Prop :=
  ∀ s, InCall s₀ L m s → wpAny (model P w) A (eval e env) (fun v s' => InCall s₀ L m s' ∧ W s'.heap v ∧ ∀ b o, s.heap.get? b = some o → s'.heap.get? b = some o) E s
theorem pv_name {x : Str} {v : Value} {pos : Pos} (hL : env.locals = L) (hk : env.scope.kind = .function) (hl : env.kindOf x = some .local) (hv : m x = some v) (hd : (x == ("__debug__" : Str)) = false := by decide) :
    PV P w A E env s₀ L m (.Name x pos) (fun _ u => u = v) := fun s I => by
  subst hL
  exact wpAny_Name (wpAny_loadName_local hk hl I.ns hv ⟨I, rfl, fun _ _ h => h⟩) hd
theorem pv_sub0 {a : Expr} {x : Str} {t : Tok} {c : Nat} {j : Nat} {p pos : Pos} (ha : PV P w A E env s₀ L m a (fun _ u => u = .str x t)) (hc : x.cps[0]? = some c) (hn : 0 < x.length) :
    PV P w A E env s₀ L m (.Subscript a (.Constant (.int 0) j p) pos) (fun _ u => ∃ t, u = .str ⟨#[c]⟩ t) := fun s I => by
  refine Subscript_ (thn (ha s I) fun v s1 ⟨I1, e, k1⟩ => ?_)
  subst e
  refine wpAny_Constant_int ?_
  have e : seqIndex? 0 x.length = some 0 := PySem.StrLaws.seqIndex_nonneg (Int.le_refl 0) (by omega)
  refine tail_any (ops := [.int 0 s1.toks, .str x t]) (typeIs_str _ x t) slot_str_getitem.lookup (getItem_str (c := c) rfl (by rw [e]; exact hc) ⟨(I1.tok _).tok _, ⟨_, rfl⟩, k1⟩) (by with_unfolding_all rfl)
/-- e[1:] of a text -/
theorem pv_sl1 {a : Expr} {x : Str} {t : Tok} {j : Nat} {p q pos : Pos} (ha : PV P w A E env s₀ L m a (fun _ u => u = .str x t)) (hz : x.length ≤ sizeLine) :
    PV P w A E env s₀ L m (.Subscript a (.Slice (some (.Constant (.int 1) j p)) none none q) pos) (fun _ u => ∃ t, u = .str (cutS x (some 1) none) t) := fun s I => by
  refine Subscript_ (thn (ha s I) fun v s1 ⟨I1, e, k1⟩ => ?_)
  subst e
  refine wpAny_Slice ?_
  rw [evalPart_some]
  refine wpAny_Constant_int ?_
  rw [evalPart_none]
  refine wpAny_pure ?_
  refine wpAny_pure ?_
  have I2 := I1.pushedS { cls := .type "slice", data := .fields #[.int 1 s1.toks, .none, .none] } (s1.toks + 1)
  have k2 : ∀ b o, s.heap.get? b = some o → (s1.heap.push { cls := .type "slice", data := .fields #[.int 1 s1.toks, .none, .none] }).get? b = some o := fun b o h => Heap.get?_push_of_some _ (k1 b o h)
  refine tail_any (ops := [.ref s1.heap.objs.size, .str x t]) (typeIs_str _ x t) slot_str_getitem.lookup
    (wpAny_getItem_str_slice (l := some (1, s1.toks)) (u := none) (st := none) ⟨_, Heap.get?_push_size _ rfl, rfl, rfl⟩ rfl ?_) (by with_unfolding_all rfl)
  have e2 := sliceText_cut x (some 1) none
  have e3 : (PySem.StrLaws.sliceText x (some 1) none).length ≤ sizeLine := by
    rw [e2]
    exact Nat.le_trans (cutS_length x (some 1) none) hz
  unfold PySem.StrLaws.sliceText at e2 e3
  show Made.post (if ((1 : Int) == 1 && (Builtin.Str.strSliceIndices (some 1) none 1 x.length).length == x.length) = true then Made.val (.str x t) else Made.str ⟨((Builtin.Str.strSliceIndices (some 1) none 1 x.length).filterMap (x.cps[·]?)).toArray⟩) _ _
  by_cases c : ((1 : Int) == 1 && (Builtin.Str.strSliceIndices (some 1) none 1 x.length).length == x.length) = true
  · rw [if_pos c] at e2 ⊢
    exact ⟨I2, ⟨t, by rw [← e2]⟩, k2⟩
  · rw [if_neg c] at e2 e3 ⊢
    rw [← e2]
    exact ⟨e3, I2.tok _, ⟨_, rfl⟩, k2⟩
/-- a built-in name -/
theorem pv_blt {mg mb : Str → Option Value} {x : Str} {u : Value} {p : Pos} {s : Shared} {Q : Value → Shared → Prop} (hk : env.scope.kind = .function) (hg : env.kindOf x = some .globalImplicit) (nG : s.heap.Ns env.globals mg) (hm : mg x = none) (nB : s.heap.Ns env.builtins mb) (hv : mb x = some u)
    (hd : (x == ("__debug__" : Str)) = false) (h : Q u s) : wpAny (model P w) A (eval (.Name x p) env) Q E s :=
  Calls.Name_function_global hk hg (Calls.loadGlobal_builtin nG hm nB hv h) hd
/-- int(a), len(a) -/
theorem pv_int {mg mb : Str → Option Value} {a : Expr} {x : Str} {n : Int} {p pos : Pos} (hk : env.scope.kind = .function) (hg : env.kindOf "int" = some .globalImplicit) (nG : s₀.heap.Ns env.globals mg) (hm : mg "int" = none) (nB : s₀.heap.Ns env.builtins mb) (hv : mb "int" = some (.type "int"))
    (ha : PV P w A E env s₀ L m a (fun _ u => ∃ t, u = .str x t)) (hx : PySem.intText? x = some n) (hl : x.length ≤ 640) (hs : starEach [a] env = (false, eval a env) :: starEach [] env := by rfl) :
    PV P w A E env s₀ L m (.Call (.Name "int" p) [a] [] pos) (fun _ u => ∃ t, u = .int n t) := fun s I => by
  refine wpAny_Call_Name_kw (pv_blt hk hg (nG.keeps I.keep) hm (nB.keeps I.keep) hv (by decide) ?_)
  refine PyProof.Rows.callWith_type1 (args_cons (thn (ha s I) fun v s1 ⟨I1, ⟨t, e⟩, k1⟩ => args_nil ?_) hs) hs rfl
  subst e
  exact PySem.W.KIN.call_text hx hl ⟨I1.tok _, ⟨_, rfl⟩, k1⟩
theorem pv_len {mg mb : Str → Option Value} {a : Expr} {x : Str} {p pos : Pos} (hk : env.scope.kind = .function) (hg : env.kindOf "len" = some .globalImplicit) (nG : s₀.heap.Ns env.globals mg) (hm : mg "len" = none) (nB : s₀.heap.Ns env.builtins mb) (hv : mb "len" = some (.builtin "len"))
    (ha : PV P w A E env s₀ L m a (fun _ u => ∃ t, u = .str x t)) (hl : x.length ≤ 100000) (hs : starEach [a] env = (false, eval a env) :: starEach [] env := by rfl) :
    PV P w A E env s₀ L m (.Call (.Name "len" p) [a] [] pos) (fun _ u => ∃ t, u = .int (x.length : Int) t) := fun s I => by
  refine wpAny_Call_Name_kw (pv_blt hk hg (nG.keeps I.keep) hm (nB.keeps I.keep) hv (by decide) ?_)
  refine PyProof.Rows.callWith_builtin1 (args_cons (thn (ha s I) fun v s1 ⟨I1, ⟨t, e⟩, k1⟩ => args_nil ?_) hs) hs rfl
  subst e
  exact len_str (by omega) ⟨(I1.tok _).tok _, ⟨_, rfl⟩, k1⟩
/-- a text or a whole number, as a value -/
def Atom (k : PyData) (u : Value) : Prop := (∃ y t, k = .str y ∧ u = .str y t) ∨ ∃ i t, k = .int i ∧ u = .int i t
theorem Atom.reads {h : Heap} {k : PyData} {u : Value} (r : Atom k u) : Reads h u k [] := by
  rcases r with ⟨y, t, rfl, rfl⟩ | ⟨i, t, rfl, rfl⟩
  · exact .str y t
  · exact .int i t
theorem PV.imp {e : Expr} {W W' : Heap → Value → Prop} (h : PV P w A E env s₀ L m e W) (hi : ∀ g u, W g u → W' g u) : PV P w A E env s₀ L m e W' := fun s I => thn (h s I) fun v s' ⟨a, b, c⟩ => ⟨a, hi _ _ b, c⟩
theorem reads_two {h : Heap} {u v : Value} {ka kb : PyData} (r1 : Reads h u ka []) (r2 : Reads h v kb []) : ReadsAll h [u, v] [ka, kb] [] := .cons r1 (.cons r2 .nil)
theorem reads_three {h : Heap} {u v z : Value} {ka kb kc : PyData} (r1 : Reads h u ka []) (r2 : Reads h v kb []) (r3 : Reads h z kc []) : ReadsAll h [u, v, z] [ka, kb, kc] [] := .cons r1 (.cons r2 (.cons r3 .nil))
/-- (a, b) as data -/
theorem pv_tup2 {a b : Expr} {ka kb : PyData} {x1} {pos : Pos} (ha : PV P w A E env s₀ L m a fun _ u => Atom ka u) (hb : PV P w A E env s₀ L m b fun _ u => Atom kb u)
    (h1 : starEach [a, b] env = (false, eval a env) :: starEach [b] env := by rfl) (h2 : starEach [b] env = (false, eval b env) :: starEach [] env := by rfl) :
    PV P w A E env s₀ L m (.Tuple [a, b] x1 pos) (fun h u => Reads h u (.tuple [ka, kb]) []) := fun s I => by
  refine wpAny_Tuple_spliced ?_
  refine args_cons (thn (ha s I) fun u s1 ⟨I1, r1, k1⟩ => args_cons (thn (hb s1 I1) fun v s2 ⟨I2, r2, k2⟩ => args_nil ?_) h2) h1
  refine ⟨(by show 2 ≤ sizeLine; decide), I2.pushedS _ _, ?_, fun b o e => Heap.get?_push_of_some _ (k2 b o (k1 b o e))⟩
  exact .tuple (Heap.get?_push_size _ rfl) rfl rfl (reads_two r1.reads r2.reads)
theorem pv_tup3 {a b c : Expr} {ka kb kc : PyData} {x1} {pos : Pos} (ha : PV P w A E env s₀ L m a fun _ u => Atom ka u) (hb : PV P w A E env s₀ L m b fun _ u => Atom kb u) (hc : PV P w A E env s₀ L m c fun _ u => Atom kc u)
    (h1 : starEach [a, b, c] env = (false, eval a env) :: starEach [b, c] env := by rfl) (h2 : starEach [b, c] env = (false, eval b env) :: starEach [c] env := by rfl) (h3 : starEach [c] env = (false, eval c env) :: starEach [] env := by rfl) :
    PV P w A E env s₀ L m (.Tuple [a, b, c] x1 pos) (fun h u => Reads h u (.tuple [ka, kb, kc]) []) := fun s I => by
  refine wpAny_Tuple_spliced ?_
  refine args_cons (thn (ha s I) fun u s1 ⟨I1, r1, k1⟩ => args_cons (thn (hb s1 I1) fun v s2 ⟨I2, r2, k2⟩ => args_cons (thn (hc s2 I2) fun z s3 ⟨I3, r3, k3⟩ => args_nil ?_) h3) h2) h1
  refine ⟨(by show 3 ≤ sizeLine; decide), I3.pushedS _ _, ?_, fun b o e => Heap.get?_push_of_some _ (k3 b o (k2 b o (k1 b o e)))⟩
  exact .tuple (Heap.get?_push_size _ rfl) rfl rfl (reads_three r1.reads r2.reads r3.reads)
end
end KPure
-- KKey
/-! a def of the text as the key of a sort: it is pure -/
namespace KKey
open PySem PySem.Spec PyProof.Rows L2 KSort KPure
/-- f(x) is pure and gives the key k x, wherever the room allows -/
def KeyFn (P : Program) (w : World) (K : PySem.W.Frag) (mg : Str → Option Value) (base : Heap) (f : Addr) (C : Str → Prop) (k : Str → PyData) : Prop :=
  ∀ (A : Around) (s : Shared) (x : Str) (t : Tok), C x → Mod K mg base → (∀ b o, base.get? b = some o → s.heap.get? b = some o) → Room 1 A →
    wpAny (model P w) A (call (.ref f) [.str x t]) (PySem.W.KeyPure (k x) s) (fun _ _ => False) s
section
variable {P : Program} {w : World} {K : PySem.W.Frag} {mg : Str → Option Value} {base : Heap}
/-- def f(x): return (x[0], int(x[1:])) -/
theorem key_cap_num {f : Addr} {nm : Str} {pars : Arguments} {body : List Stmt} {scope : Scope} {dV kV doc pm cdv ct oc : Value} {an od : Option Addr} {osl : Array (Option Value)} {C : Str → Prop} {cp : Str → Nat} {num : Str → Int} {p1 p2 p3 p4 p5 p6 p7 p8 p9 p10 p11 : Pos} {j1 j2 : Nat} {x1 : Nat} {a : Str}
    (lk : K.lookup f = some ⟨oc, od, .func (PySem.W.fnOf nm nm pars body scope dV kV doc pm an cdv ct), osl⟩) (hcd : PySem.W.codeIn K cdv nm = true)
    (hb : body = [.Return (some (.Tuple [.Subscript (.Name a p1) (.Constant (.int 0) j1 p2) p3, .Call (.Name "int" p4) [.Subscript (.Name a p5) (.Slice (some (.Constant (.int 1) j2 p6)) none none p7) p8] [] p9] x1 p10)) p11])
    (hk : scope.kind = .function) (hco : scope.isCoroutine = false) (hgn : scope.isGenerator = false) (hloc : scope.names.lookup a = some .local) (hint : scope.names.lookup ("int" : Str) = some .globalImplicit) (hcell : ∀ x ∈ scope.names, x.2 ≠ .cell) (had : (a == ("__debug__" : Str)) = false)
    (hbind : ∀ u : Value, bindArgs (PySem.W.fnOf nm nm pars body scope dV kV doc pm an cdv ct) ⟨[u], []⟩ = pure [(a, u)]) (mi : mg "int" = none)
    (hc : ∀ x, C x → x.cps[0]? = some (cp x) ∧ 0 < x.length ∧ x.length ≤ 640 ∧ PySem.intText? (cutS x (some 1) none) = some (num x)) :
    KeyFn P w K mg base f C fun x => .tuple [.str ⟨#[cp x]⟩, .int (num x)] := by
  intro A s x t hx M kp hr
  obtain ⟨c0, c1, c2, c3⟩ := hc x hx
  subst hb
  have nG : s.heap.Ns mainGlobals mg := M.glob.keeps kp
  obtain ⟨mb, nb, hmb⟩ := M.blt
  have nB := nb.keeps kp
  have KX : K.In s.heap := M.kin.keeps kp
  have hs : sizeLine = 16777216 := sizeLine_eq
  refine wpAny_call (codeAny_call_straight hr.depth (KX _ _ lk) rfl (M.nolimit.keeps kp) (PySem.W.codeRec_of KX hcd) rfl (hbind (.str x t)) hcell (fun y hy => ?_) (fun s1 I1 => ?_) hco hgn hk)
  · rw [List.mem_singleton.mp hy]
    exact hloc
  generalize hfd : PySem.W.fnOf nm nm pars _ scope dV kV doc pm an cdv ct = fd at I1
  have e1 : (callEnv fd s.heap.objs.size f).locals = s.heap.objs.size := rfl
  have e2 : (callEnv fd s.heap.objs.size f).scope = scope := by rw [← hfd]; rfl
  have e3 : (callEnv fd s.heap.objs.size f).kindOf a = some .local := by rw [← hfd]; exact hloc
  have e4 : (callEnv fd s.heap.objs.size f).kindOf ("int" : Str) = some .globalImplicit := by rw [← hfd]; exact hint
  have e5 : (callEnv fd s.heap.objs.size f).scope.kind = .function := by rw [e2]; exact hk
  have e6 : (callEnv fd s.heap.objs.size f).globals = mainGlobals := by rw [← hfd]; rfl
  have e7 : (callEnv fd s.heap.objs.size f).builtins = builtinsNs := by rw [← hfd]; rfl
  have va : ∀ {q : Pos} {E : Value → Shared → Prop}, PV P w (A.deeper (callEnv fd s.heap.objs.size f)) E (callEnv fd s.heap.objs.size f) s s.heap.objs.size (fun y => List.lookup y [(a, Value.str x t)].reverse) (.Name a q) (fun _ u => u = .str x t) :=
    fun {q E} => pv_name e1 e5 e3 (by simp) had
  refine wpAny_execs_cons (wpAny_Return_some (thn (pv_tup2 (x1 := x1) (pos := p10) (ka := .str ⟨#[cp x]⟩) (kb := .int (num x))
    ((pv_sub0 (j := j1) (p := p2) (pos := p3) (va (q := p1)) c0 c1).imp fun _ u he => .inl ⟨_, he.choose, rfl, he.choose_spec⟩)
    ((pv_int (p := p4) (pos := p9) e5 e4 (by rw [e6]; exact nG) mi (by rw [e7]; exact nB) ((hmb "int" (by decide)).trans boot_int) (pv_sl1 (j := j2) (p := p6) (q := p7) (pos := p8) (va (q := p5)) (by omega)) c3 (Nat.le_trans (cutS_length x (some 1) none) c2)).imp
      fun _ u he => .inr ⟨_, he.choose, rfl, he.choose_spec⟩) rfl rfl s1 I1) fun u s2 ⟨I2, r2, k2⟩ => ?_))
  obtain ⟨h', tk, e, kp2⟩ := I2.done
  subst e
  exact ⟨h', tk, rfl, kp2, r2⟩
end
/-- sorted(xs, key=f), f a def that is pure -/
def rSortKey (K : PySem.W.Frag) (f : Addr) (C : Str → Prop) (k : Str → PyData) : List V → List V → Hp → VK → Prop := fun vs zs H Q => ∃ (a : Addr) (ss : List Str), vs = [.ref a] ∧ zs = [.ref f] ∧ SqL K H a (ss.map V.str) ∧ (∀ x ∈ ss, C x) ∧
  ∀ p, H p = none → Q (.ref p) (upd H p (.lst ((ss.mergeSort (PySem.W.dataLe false k)).map V.str)))
theorem Inv.bkAll {X : Cx} {pins : List (Addr × Obj)} {σ : L2.St} {H : Hp} {s : Shared} {h : Heap} {tk : Nat} (I : Inv X pins σ H s) (kp : ∀ b o, s.heap.get? b = some o → h.get? b = some o) : ∀ b o, X.base.get? b = some o → h.get? b = some o := fun b o e => kp b o (I.bk b o e)
theorem cr_sortKey {X : Cx} {f : Addr} {C : Str → Prop} {k : Str → PyData} (F : KeyFn X.prog X.w X.K X.mg X.base f C k) (hr : Room 3 X.A) (hal : ∀ x y, C x → C y → PySem.W.alike (k x) (k y) = true) (htup : ∀ x, C x → ∃ y r, k x = .tuple (y :: r)) (hd : ∀ x, C x → (k x).depth ≤ 8) :
    CallRK X (.builtin "sorted") [Str.ofString "key"] (rSortKey X.K f C k) := by
  intro pins s σ H vs zs us ws Q I r rz h
  obtain ⟨a, ss, rfl, rfl, hs, hC, q⟩ := h
  obtain rfl := Vals.ref1 r
  obtain ⟨w1, rfl, e1⟩ := vals1 rz
  obtain rfl : w1 = Value.ref f := e1
  refine sorted_by_run (k := k) I hs (fun d hd d' hd' => ?_) (.inl fun d hd => ?_) (fun x hx => ?_) (fun x hx t h tk kp => ?_) q
  · obtain ⟨x, hx, rfl⟩ := List.mem_map.mp hd
    obtain ⟨y, hy, rfl⟩ := List.mem_map.mp hd'
    exact hal x y (hC x hx) (hC y hy)
  · obtain ⟨x, hx, rfl⟩ := List.mem_map.mp hd
    exact htup x (hC x hx)
  · have h1 := hr.un
    have h2 := hd x (hC x hx)
    omega
  · exact F _ _ x t (hC x hx) I.mod (fun b o e => kp b o (I.bk b o e)) (hr.in1.in1)
end KKey
-- KLamSort
/-! sorted(xs, key=lambda a: (a[0], len(a), a)) over the hand layer -/
namespace KLamS
open PySem PySem.Spec PyProof.Rows L2 LamX KSort KPure KKey
/-- the lambda's body as a key: (a[0], len(a), a) -/
def lamBody (a : Str) (p1 p2 p3 p4 p5 p6 p7 p8 : Pos) (j1 x1 : Nat) : Expr :=
  .Tuple [.Subscript (.Name a p1) (.Constant (.int 0) j1 p2) p3, .Call (.Name "len" p4) [.Name a p5] [] p6, .Name a p7] x1 p8
/-- the order that this key gives -/
def lamKey (cp : Str → Nat) (x : Str) : PyData := .tuple [.str ⟨#[cp x]⟩, .int (x.length : Int), .str x]
section
variable {P : Program} {w : World} {K : PySem.W.Frag} {mg : Str → Option Value} {base : Heap}
/-- one call of the lambda -/
theorem lam_key_call {A : Around} {s : Shared} {f c' : Addr} {qual : Str} {params : Arguments} {scope : Scope} {pm ctv : Value} {a : Str} {x : Str} {t : Tok} {c : Nat} {p1 p2 p3 p4 p5 p6 p7 p8 : Pos} {j1 x1 : Nat}
    (hf : s.heap.get? f = some (PySem.W.kla_obj "<lambda>" qual params (lamBody a p1 p2 p3 p4 p5 p6 p7 p8 j1 x1) scope [] pm c' ctv)) (hcd : s.heap.CodeRec (.ref c') qual)
    (hk : scope.kind = .function) (hco : scope.isCoroutine = false) (hgn : scope.isGenerator = false) (hloc : scope.names.lookup a = some .local) (hlen : scope.names.lookup ("len" : Str) = some .globalImplicit) (hcell : ∀ x ∈ scope.names, x.2 ≠ .cell) (had : (a == ("__debug__" : Str)) = false)
    (hbind : bindArgs (PySem.W.kla_fn "<lambda>" qual params (lamBody a p1 p2 p3 p4 p5 p6 p7 p8 j1 x1) scope [] pm (.ref c') ctv) ⟨[.str x t], []⟩ = pure [(a, .str x t)]) (ml : mg "len" = none)
    (c0 : x.cps[0]? = some c) (c1 : 0 < x.length) (c2 : x.length ≤ 100000) (M : L2.Mod K mg base) (kp : ∀ b o, base.get? b = some o → s.heap.get? b = some o) (hr : Room 1 A) :
    wpAny (model P w) A (call (.ref f) [.str x t]) (PySem.W.KeyPure (.tuple [.str ⟨#[c]⟩, .int (x.length : Int), .str x]) s) (fun _ _ => False) s := by
  have nG : s.heap.Ns mainGlobals mg := M.glob.keeps kp
  obtain ⟨mb, nb, hmb⟩ := M.blt
  have nB := nb.keeps kp
  refine wpAny_call (PySem.W.kla_callFunE hr.depth hf rfl hco hgn rfl hcd ?_)
  rw [hbind]
  refine wpAny_pure (wpAny_newFunctionEnv hcell (fun y hy => ?_) (fun h₁ hns hsb => ⟨(M.nolimit.keeps kp).fresh _ hsb, ?_⟩) hk)
  · rw [List.mem_singleton.mp hy]
    exact hloc
  have k1 : ∀ b o, s.heap.get? b = some o → h₁.get? b = some o := fun b o e => hsb.extBut b o (Nat.ne_of_lt (Heap.lt_size e)) (Heap.get?_push_of_some _ e)
  refine PySem.W.kla_codeExpr ?_
  have I1 : InCall s s.heap.objs.size (fun y => List.lookup y [(a, Value.str x t)].reverse) { s with heap := h₁, toks := s.toks + [(a, Value.str x t)].length } := ⟨⟨h₁, _, rfl⟩, hns, k1, Nat.le_refl _⟩
  generalize henv : newEnv _ s.heap.objs.size _ _ _ _ _ _ _ = env
  have e1 : env.locals = s.heap.objs.size := by rw [← henv]; rfl
  have e2 : env.scope = scope := by rw [← henv]; rfl
  have e3 : env.kindOf a = some .local := by rw [← henv]; exact hloc
  have e4 : env.kindOf ("len" : Str) = some .globalImplicit := by rw [← henv]; exact hlen
  have e5 : env.scope.kind = .function := by rw [e2]; exact hk
  have e6 : env.globals = mainGlobals := by rw [← henv]; rfl
  have e7 : env.builtins = builtinsNs := by rw [← henv]; rfl
  have va : ∀ {q : Pos} {E : Value → Shared → Prop}, PV P w (A.deeper env) E env s s.heap.objs.size (fun y => List.lookup y [(a, Value.str x t)].reverse) (.Name a q) (fun _ u => u = .str x t) :=
    fun {q E} => pv_name e1 e5 e3 (by simp) had
  refine thn (pv_tup3 (x1 := x1) (pos := p8) (ka := .str ⟨#[c]⟩) (kb := .int (x.length : Int)) (kc := .str x)
    ((pv_sub0 (j := j1) (p := p2) (pos := p3) (va (q := p1)) c0 c1).imp fun _ u he => .inl ⟨_, he.choose, rfl, he.choose_spec⟩)
    ((pv_len (p := p4) (pos := p6) e5 e4 (by rw [e6]; exact nG) ml (by rw [e7]; exact nB) ((hmb "len" (by decide)).trans boot_len) ((va (q := p5)).imp fun _ u he => ⟨t, he⟩) c2).imp
      fun _ u he => .inr ⟨_, he.choose, rfl, he.choose_spec⟩)
    ((va (q := p7)).imp fun _ u he => .inl ⟨x, t, rfl, he⟩) rfl rfl rfl _ I1) fun u s2 ⟨I2, r2, k2⟩ => ?_
  obtain ⟨h', tk, e, kp2⟩ := I2.done
  subst e
  exact ⟨h', tk, rfl, kp2, r2⟩
end
/-- the reading: the list, then a new list that is sorted by the lambda's key; the tables may grow -/
def tSortLam (K : PySem.W.Frag) (T : List (Addr × Str)) (cp : Str → Nat) (te : TE) : TE := fun σ H Q => te σ H fun v H1 => ∃ (a : Addr) (ss : List Str), v = .ref a ∧ SqL K H1 a (ss.map V.str) ∧ (∀ x ∈ ss, x.cps[0]? = some (cp x) ∧ 0 < x.length ∧ x.length ≤ 100000) ∧ Tabs T H1 ∧
  ∀ H2, ExtN H1 H2 → Tabs T H2 → ∀ p, H2 p = none → Q (.ref p) (upd H2 p (.lst ((ss.mergeSort (PySem.W.dataLe false (lamKey cp))).map V.str)))
theorem seq_extN {K : PySem.W.Frag} {H H' : Hp} {a : Addr} {xs : List V} (e : ExtN H H') (h : SqL K H a xs) : SqL K H' a xs := by
  rcases h with (h | ⟨o, h⟩) | h
  · exact .inl (.inl (e _ _ h fun ps z => by cases z))
  · exact .inl (.inr ⟨o, e _ _ h fun ps z => by cases z⟩)
  · exact .inr h
theorem pe_sortLam {X : Cx} {T : List (Addr × Str)} {c P : Addr} {cp : Str → Nat} {e : Expr} {te : TE} {params : Arguments} {scope : Scope} {a : Str} {p pos lpos kpos : Pos} {p1 p2 p3 p4 p5 p6 p7 p8 : Pos} {j1 x1 : Nat}
    (hg : Gl X "sorted") (hm : X.mg "sorted" = none) (he : PE X e te) (TB : TabB X.base X.mg c P) (hcode : X.env.code = .ref c) (hmT : (P, X.env.qual ++ "<lambda>") ∈ T) (hu : ∀ p ∈ T, p.1 = P → p.2 = X.env.qual ++ "<lambda>") (hdef : defaultsOf params X.env = ([], []))
    (hk : scope.kind = .function) (hco : scope.isCoroutine = false) (hgn : scope.isGenerator = false) (hloc : scope.names.lookup a = some .local) (hlen : scope.names.lookup ("len" : Str) = some .globalImplicit) (hcell : ∀ x ∈ scope.names, x.2 ≠ .cell) (hfree : ∀ x ∈ scope.names, x.2 ≠ .free)
    (hbind : ∀ (q : Str) (pm cv ctv u : Value), bindArgs (PySem.W.kla_fn "<lambda>" q params (lamBody a p1 p2 p3 p4 p5 p6 p7 p8 j1 x1) scope [] pm cv ctv) ⟨[u], []⟩ = pure [(a, u)]) (hclo : cloFrom X.env.cells scope.names [] = []) (ml : X.mg "len" = none) (hr : Room 3 X.A)
    (had : (a == ("__debug__" : Str)) = false := by decide) (hst : starEach [e] X.env = (false, eval e X.env) :: starEach [] X.env := by rfl)
    (hback : backTo pos (starEach [e] X.env) = (false, eval e X.env) :: backTo pos (starEach [] X.env) := by rfl) (hpl : (backTo pos (starEach [e] X.env)).any (·.1) = false := by rfl) :
    PE X (.Call (.Name "sorted" p) [e] [⟨some "key", .Lambda params (lamBody a p1 p2 p3 p4 p5 p6 p7 p8 j1 x1) scope lpos, kpos⟩] pos) (tSortLam X.K T cp te) := by
  refine ⟨fun pins s σ H Q I h => ?_⟩
  refine wpAny_Call_Name_kw (ld_blt I hg hm (by decide +kernel : bootBuiltins ("sorted" : Str) = some (.builtin "sorted")) ?_)
  refine PyProof.Rows.callWith_kw (args_cons (thn (he.run pins s σ H _ I h) fun v s1 ⟨y, H1, I1, r1, al, ss, ey, hs, hC, hT, q⟩ => args_nil ?_) hst) hback hpl rfl rfl
  subst ey
  obtain rfl : v = Value.ref al := r1
  show wpAny _ _ (evalAll [(do let v ← eval (.Lambda params (lamBody a p1 p2 p3 p4 p5 p6 p7 p8 j1 x1) scope lpos) X.env; standAt pos; pure v)]) _ _ s1
  refine wpAny_evalAll_cons (wpAny_bind (lam_make2 I1 TB hcode hmT hu hT hdef (fun y hy e => absurd e (hfree y hy)) fun f c' pm ctv H2 s2 I2 eN T2 hf hfn hfr hco' => wpAny_bind (wpAny_standAt (wpAny_pure (wpAny_evalAll_nil ?_)))))
  show wpAny _ _ (call (.builtin "sorted") [.ref al] [(Str.ofString "key", .ref f)]) _ _ s2
  rw [hclo] at hf
  obtain ⟨⟨oc, vs, tq, g1, g2, g3⟩, _, _⟩ := I2.hok c' _ hco'
  refine sorted_by_run (k := lamKey cp) I2 (seq_extN eN hs) (fun d hd d' hd' => ?_) (.inl fun d hd => ?_) (fun x hx => ?_) (fun x hx t h tk kp => ?_) (q H2 eN T2)
  · obtain ⟨x, hx, rfl⟩ := List.mem_map.mp hd
    obtain ⟨y, hy, rfl⟩ := List.mem_map.mp hd'
    rfl
  · obtain ⟨x, hx, rfl⟩ := List.mem_map.mp hd
    exact ⟨_, _, rfl⟩
  · have h1 := hr.un
    show X.A.units + 2 + 1 < cLine
    omega
  · obtain ⟨b0, b1, b2⟩ := hC x hx
    exact lam_key_call (kp _ _ hf) ⟨c', oc, vs, tq, rfl, kp _ _ g1, g2, g3⟩ hk hco hgn hloc hlen hcell had (hbind _ _ _ _ _) ml b0 b1 b2 I2.mod (fun b o e => kp b o (I2.bk b o e)) (hr.in1.in1)
end KLamS
-- KMaxD
/-! max(xs, default=d) of a list of whole numbers -/
namespace KMaxD
open PySem PySem.Spec PyProof.Rows L2
section
variable {pr : Program} {w : World} {A : Around} {R : Result → Shared → Prop} {J : Addr} {fp wr : List Addr} {n : Nat} {Pn : Nat → Value → Prop} {Sn : Nat → Heap → Prop} {dk : Str} {dv : Value}
def bestObj (l : Array Value) (c : Nat) : Obj := { cls := .type "list", dict := none, data := .seq l c, slots := #[] }
abbrev loopCode (J B : Addr) (dk : Str) (dv : Value) : Code := .builtin "max.loop" ⟨[.ref J, .none, .ref B], [(dk, dv)]⟩
theorem nm_eq : (toString "max" ++ toString ".loop" : String) = "max.loop" := by decide
/-- from a best one on -/
theorem loop_on (W : Walks pr w A.in1 J fp wr n Pn Sn) (bt : Nat → Nat → Bool) (cmp : CmpOf pr w A.in1 .Gt Pn bt) (B : Addr) (nB : B ∉ fp) : ∀ (k i : Nat) (s : Shared) (best : Value) (c : Nat), n = i + 1 + k → Sn (i + 1) s.heap → Pn (argBest bt i) best →
    s.heap.get? B = some (bestObj #[best, best] c) → (∀ v g tk, Pn (argBest bt (n - 1)) v → (∀ b o, b ∉ wr → b ≠ B → s.heap.get? b = some o → g.get? b = some o) → R (.ok (.ret v)) { s with heap := g, toks := tk }) → codeAny (model pr w) A (loopCode J B dk dv) R s
  | 0, i, s, best, c, hn, st, pb, ob, fin => by
    have nW : B ∉ wr := fun z => nB (W.sub _ z)
    refine codeAny_builtin F.entry_max_loop ?_
    rw [Around.under_plainId F.plain_max_loop _]
    show wpAny _ A.in1 (seqItems? (.ref B) >>= _) _ _ s
    refine wpAny_bind (wpAny_seqItems ob rfl ?_)
    show wpAny _ A.in1 (tryCatch (pyNext (.ref J)) _ >>= _) _ _ s
    have hi : i + 1 = n := by omega
    refine wpAny_bind (wpAny_tryCatch (W.done s _ _ (hi ▸ st) fun g tk kp => ?_))
    show wpAny _ A.in1 (updateSeq B (fun _ => #[]) >>= _) _ _ _
    refine wpAny_bind (wpAny_updateSeq (kp B _ nW ob) rfl (wpAny_bind (wpAny_letGo (wpAny_pure (fin best _ tk ?_ ?_)))))
    · rw [← hi]
      exact pb
    · exact fun b o h1 h2 e => (Heap.get?_update_other _ _ (Ne.symm h2)).trans (kp b o h1 e)
  | k + 1, i, s, best, c, hn, st, pb, ob, fin => by
    have nW : B ∉ wr := fun z => nB (W.sub _ z)
    refine codeAny_builtin F.entry_max_loop ?_
    rw [Around.under_plainId F.plain_max_loop _]
    show wpAny _ A.in1 (seqItems? (.ref B) >>= _) _ _ s
    refine wpAny_bind (wpAny_seqItems ob rfl ?_)
    show wpAny _ A.in1 (tryCatch (pyNext (.ref J)) _ >>= _) _ _ s
    refine wpAny_bind (wpAny_tryCatch (W.item (i + 1) s _ _ (by omega) st fun v g tk pv st1 kp => ?_))
    have ob1 := kp B _ nW ob
    show wpAny _ A.in1 (tryCatch (holding [v, v] (richCompare .Gt v best >>= _)) _ >>= _) _ _ _
    refine wpAny_bind (wpAny_tryCatch (wpAny_holding (wpAny_bind (cmp (i + 1) (argBest bt i) v best _ _ _ pv pb ?_))))
    refine wpAny_bind (wpAny_holding (wpAny_truthy_bool (wpAny_bind (wpAny_letGo (wpAny_pure ?_)))))
    cases hb : bt (i + 1) (argBest bt i) with
    | true =>
      simp only [if_true]
      refine wpAny_bind (wpAny_updateSeq ob1 rfl (wpAny_bind (wpAny_letGo ?_)))
      rw [nm_eq]
      refine wpAny_pure ⟨plainId_quiet F.plain_max_loop _, loop_on W bt cmp B nB k (i + 1) _ v _ (by omega) (W.frame _ _ _ st1 fun b hb' o e => ?_) (by simp only [argBest, hb, if_true]; exact pv) (Heap.get?_update_self _ ob1 rfl) fun v' g' tk' p' kp' => ?_⟩
      · exact (Heap.get?_update_other _ _ (fun z : B = b => nB (z ▸ hb'))).trans e
      · exact fin v' g' tk' p' fun b o h1 h2 e => kp' b o h1 h2 ((Heap.get?_update_other _ _ (Ne.symm h2)).trans (kp b o h1 e))
    | false =>
      simp only [Bool.false_eq_true, if_false]
      refine wpAny_bind (wpAny_letGo ?_)
      rw [nm_eq]
      refine wpAny_pure ⟨plainId_quiet F.plain_max_loop _, loop_on W bt cmp B nB k (i + 1) _ best c (by omega) st1 (by simp only [argBest, hb, Bool.false_eq_true, if_false]; exact pb) ob1 fun v' g' tk' p' kp' => ?_⟩
      exact fin v' g' tk' p' fun b o h1 h2 e => kp' b o h1 h2 (kp b o h1 e)
/-- the first turn: no item, the default; else on -/
theorem loop_first (W : Walks pr w A.in1 J fp wr n Pn Sn) (bt : Nat → Nat → Bool) (cmp : CmpOf pr w A.in1 .Gt Pn bt) (B : Addr) (nB : B ∉ fp) {s : Shared} {c : Nat} (st : Sn 0 s.heap) (ob : s.heap.get? B = some (bestObj #[] c))
    (fin : ∀ v g tk, (if n = 0 then v = dv else Pn (argBest bt (n - 1)) v) → (∀ b o, b ∉ wr → b ≠ B → s.heap.get? b = some o → g.get? b = some o) → R (.ok (.ret v)) { s with heap := g, toks := tk }) : codeAny (model pr w) A (loopCode J B dk dv) R s := by
  have nW : B ∉ wr := fun z => nB (W.sub _ z)
  refine codeAny_builtin F.entry_max_loop ?_
  rw [Around.under_plainId F.plain_max_loop _]
  show wpAny _ A.in1 (seqItems? (.ref B) >>= _) _ _ s
  refine wpAny_bind (wpAny_seqItems ob rfl ?_)
  show wpAny _ A.in1 (tryCatch (pyNext (.ref J)) _ >>= _) _ _ s
  by_cases h0 : n = 0
  · subst h0
    refine wpAny_bind (wpAny_tryCatch (W.done s _ _ st fun g tk kp => ?_))
    refine wpAny_bind (wpAny_rule (wpAny_pure ?_))
    exact fin dv g tk rfl fun b o h1 _ e => kp b o h1 e
  · refine wpAny_bind (wpAny_tryCatch (W.item 0 s _ _ (by omega) st fun v g tk pv st1 kp => ?_))
    have ob1 := kp B _ nW ob
    show wpAny _ A.in1 (updateSeq B (fun _ => #[v, v]) >>= _) _ _ _
    refine wpAny_bind (wpAny_updateSeq ob1 rfl ?_)
    rw [nm_eq]
    refine wpAny_pure ⟨plainId_quiet F.plain_max_loop _, loop_on W bt cmp B nB (n - 1) 0 _ v _ (by omega) (W.frame _ _ _ st1 fun b hb' o e => ?_) pv (Heap.get?_update_self _ ob1 rfl) fun v' g' tk' p' kp' => ?_⟩
    · exact (Heap.get?_update_other _ _ (fun z : B = b => nB (z ▸ hb'))).trans e
    · exact fin v' g' tk' (by rw [if_neg h0]; exact p') fun b o h1 h2 e => kp' b o h1 h2 ((Heap.get?_update_other _ _ (Ne.symm h2)).trans (kp b o h1 e))
end
section
variable {pr : Program} {w : World} {A : Around} {E : Value → Shared → Prop} {s : Shared}
theorem args_maxD (a v : Value) : argsOk "max" ⟨[a], [(Str.ofString "default", v)]⟩ := by unfold argsOk; kernel_rfl
theorem check_maxD (a v : Value) : checkBuiltinCall "max" ⟨[a], [(Str.ofString "default", v)]⟩ = pure () := by
  have h := args_maxD a v
  simp only [checkBuiltinCall, F.kind_max]
  cases e : Manifest.signature? "max" with
  | none => rfl
  | some sg =>
    simp only [argsOk, e] at h
    exact h
theorem call_maxD {l : Addr} {xs : Array (Int × Tok)} {dv : Value} {Q : Value → Shared → Prop} (hh : A.handled = none) (hl : s.heap.IsList l (intItems xs))
    (h : ∀ v g tk, (if xs.size = 0 then v = dv else (intItems xs)[argBest (fun i j => decide (numAt xs i > numAt xs j)) (xs.size - 1)]? = some v) → (∀ b o, s.heap.get? b = some o → g.get? b = some o) → Q v { s with heap := g, toks := tk }) :
    wpAny (model pr w) A (call (.builtin "max") [.ref l] [(Str.ofString "default", dv)]) Q E s := by
  refine wpAny_call (codeAny_call_builtin F.plain_max F.entry_max ?_)
  rw [check_maxD]
  refine wpAny_pure ?_
  show wpAny _ A.in1 (Builtin.Builtins.bindParams "max" ["key", "default"] 0 ⟨[], [(Str.ofString "default", dv)]⟩ >>= _) _ _ s
  refine wpAny_bind (wpAny_of_eq (show Builtin.Builtins.bindParams "max" ["key", "default"] 0 ⟨[], [(Str.ofString "default", dv)]⟩ = pure [none, some dv] from rfl) ?_)
  refine wpAny_bind (wpAny_pure ?_)
  refine wpAny_bind (iter_intList hl fun s2 e st hfp hlI => ?_)
  subst e
  refine wpAny_bind (wpAny_newObj_type ?_)
  have nB : (s.heap.push { cls := .type "list_iterator", data := .fields #[.ref l, .int 0 0] }).objs.size ∉ [s.heap.objs.size, l] := fun hm => Nat.lt_irrefl _ (hfp _ hm)
  have W := Walks.list (prog := pr) (w := w) (A := A.in1) hh s.heap.objs.size l hlI (intItems xs)
  rw [nm_eq]
  refine wpAny_pure ⟨plainId_quiet F.plain_max_loop _, loop_first W _ (CmpOf.ints_gt (numAt xs) (fun _ _ => intItems_at)) _ nB (W.frame _ _ _ st fun b _ o e => Heap.get?_push_of_some _ e) (Heap.get?_push_size _ rfl) fun v g tk hv kp => ?_⟩
  have hsz : (intItems xs).size = xs.size := by simp [intItems]
  rw [hsz] at hv
  exact h v g tk hv fun b o e => kp b o (fun hm => by
    rcases List.mem_cons.mp hm with z | z
    · exact absurd (z ▸ Heap.lt_size e) (Nat.lt_irrefl _)
    · cases z) (Nat.ne_of_lt (Heap.lt_size (Heap.get?_push_of_some _ e))) (Heap.get?_push_of_some _ (Heap.get?_push_of_some _ e))
end
/-- the greatest of these, d if there are none -/
def maxD (d : Int) : List Int → Int
  | [] => d
  | x :: r => r.foldl max x
theorem foldl_max_ge : ∀ (r : List Int) (x : Int), x ≤ r.foldl max x
  | [], x => Int.le_refl x
  | y :: r, x => Int.le_trans (Int.le_max_left x y) (foldl_max_ge r (max x y))
theorem foldl_max_all : ∀ (r : List Int) (x y : Int), y ∈ r → y ≤ r.foldl max x
  | z :: r, x, y, h => by
    rcases List.mem_cons.mp h with e | h
    · subst e
      exact Int.le_trans (Int.le_max_right x y) (foldl_max_ge r (max x y))
    · exact foldl_max_all r (max x z) y h
theorem foldl_max_mem : ∀ (r : List Int) (x : Int), r.foldl max x = x ∨ r.foldl max x ∈ r
  | [], x => .inl rfl
  | y :: r, x => by
    rcases foldl_max_mem r (max x y) with e | e
    · show List.foldl max (max x y) r = x ∨ List.foldl max (max x y) r ∈ y :: r
      rw [e]
      by_cases h : x ≤ y
      · exact .inr (List.mem_cons.mpr (.inl (Int.max_eq_right h)))
      · exact .inl (Int.max_eq_left (by omega))
    · exact .inr (List.mem_cons.mpr (.inr e))
theorem maxD_eq {d : Int} {ns : List Int} {m : Int} (h : ns ≠ []) (hm : m ∈ ns) (hg : ∀ y ∈ ns, y ≤ m) : maxD d ns = m := by
  cases ns with
  | nil => exact absurd rfl h
  | cons x r =>
    have h1 : m ≤ maxD d (x :: r) := by
      rcases List.mem_cons.mp hm with e | e
      · rw [e]
        exact foldl_max_ge r x
      · exact foldl_max_all r x m e
    have h2 : maxD d (x :: r) ≤ m := by
      rcases foldl_max_mem r x with e | e
      · show List.foldl max x r ≤ m
        rw [e]
        exact hg x List.mem_cons_self
      · exact hg _ (List.mem_cons.mpr (.inr e))
    omega
def rMaxDef (K : PySem.W.Frag) : List V → List V → Hp → VK → Prop := fun vs zs H Q => ∃ (a : Addr) (ns : List Int) (d : Int), vs = [.ref a] ∧ zs = [.int d] ∧ SqL K H a (ns.map V.int) ∧ Q (.int (maxD d ns)) H
theorem cr_maxDef {X : Cx} (hc : X.calm = true) : CallRK X (.builtin "max") [Str.ofString "default"] (rMaxDef X.K) := by
  intro pins s σ H vs zs us ws Q I r rz h
  obtain ⟨a, ns, d, rfl, rfl, hs, q⟩ := h
  obtain rfl := Vals.ref1 r
  obtain ⟨w1, rfl, t0, e1⟩ := vals1 rz
  subst e1
  obtain ⟨its, rv, hl, hz⟩ := I.list hs
  obtain ⟨xs, e⟩ := rv.ints.allInts.items
  have hn : numsOf (intItems xs).toList = ns := by
    rw [← e]
    exact rv.ints.numsOf
  rw [nums_intItems] at hn
  have hl' := hl.isList
  rw [e] at hl'
  refine call_maxD (I.ok.hd hc) hl' fun v g tk hv kp => ?_
  by_cases h0 : xs.size = 0
  · rw [if_pos h0] at hv
    have e0 : ns = [] := by
      rw [← hn]
      exact List.eq_nil_of_length_eq_zero (by rw [List.length_map, Array.length_toList]; exact h0)
    subst hv
    subst e0
    exact ⟨.int d, H, I.kept kp, ⟨t0, rfl⟩, q⟩
  · rw [if_neg h0] at hv
    obtain ⟨t, rfl⟩ := intItems_at hv
    obtain ⟨h1, h2⟩ := argBest_gt (numAt xs) (xs.size - 1)
    refine ⟨.int (maxD d ns), H, I.kept kp, ⟨t, ?_⟩, q⟩
    rw [maxD_eq (m := numAt xs (argBest (fun i j => decide (numAt xs i > numAt xs j)) (xs.size - 1)))]
    · intro z
      rw [← hn] at z
      have := congrArg List.length z
      rw [List.length_map, Array.length_toList] at this
      exact h0 this
    · rw [← hn, numAt_eq]
      exact PySem.getD_mem (by rw [List.length_map, Array.length_toList]; omega)
    · intro y hy
      rw [← hn] at hy
      obtain ⟨j, hj, rfl⟩ := mem_getD hy
      rw [List.length_map, Array.length_toList] at hj
      rw [← numAt_eq]
      exact h2 j (by omega)
end KMaxD
-- KEv
/-! more values: texts, chains, dicts, in the manner of Evl -/
namespace KEv
open PySem PySem.Spec PyProof.Rows L2 Evl
section
variable {K : PySem.W.Frag} {σ : L2.St} {H H' : Hp} {ta tb tc te : TE} {t u : TT} {x y z v : V} {r r' : R2}
/-! names for readings -/
def rIsS : R2 := fun x y H Q => ∃ (c : Nat) (z : Str), x = .str ⟨#[c]⟩ ∧ y = .str z ∧ Q (.bl (decide (c ∈ z.cps.toList))) H
def rNiS : R2 := fun x y H Q => ∃ (c : Nat) (z : Str), x = .str ⟨#[c]⟩ ∧ y = .str z ∧ Q (.bl (!decide (c ∈ z.cps.toList))) H
theorem op_isS {X : Cx} : OpR X (compareOp .In) rIsS := op_in_sign
theorem op_niS {X : Cx} : OpR X (compareOp .NotIn) rNiS := op_notIn_sign
theorem rv_isS {c : Nat} {w : Str} : RV rIsS (.str ⟨#[c]⟩) (.str w) H (.bl (decide (c ∈ w.cps.toList))) := fun H1 _ _ q => ⟨c, w, rfl, rfl, q H1 (Ex.refl H1)⟩
theorem rv_niS {c : Nat} {w : Str} : RV rNiS (.str ⟨#[c]⟩) (.str w) H (.bl (!decide (c ∈ w.cps.toList))) := fun H1 _ _ q => ⟨c, w, rfl, rfl, q H1 (Ex.refl H1)⟩
def rAddS : R2 := fun x y H Q => ∃ i j, x = .str i ∧ y = .str j ∧ i.length + j.length ≤ sizeLine ∧ Q (.str (i ++ j)) H
theorem op_addS {X : Cx} : OpR X (binaryOp .Add) rAddS := op_add_str
theorem rv_addS {a b : Str} (h : a.length + b.length ≤ 1000000) : RV rAddS (.str a) (.str b) H (.str (a ++ b)) := fun H1 _ _ q => ⟨a, b, rfl, rfl, Nat.le_trans h (by decide), q H1 (Ex.refl H1)⟩
/-- n copies -/
def repS (a : Str) (n : Nat) : Str := ⟨(List.replicate n a.cps.toList).flatten.toArray⟩
/-- len of a text -/
def rLenT : List V → Hp → VK → Prop := fun xs H Q => ∃ z : Str, xs = [.str z] ∧ z.length ≤ sizeLine ∧ Q (.int z.length) H
theorem call_lenT {X : Cx} : CallR X (.builtin "len") rLenT := call_len_str
theorem ev_lenT {a : Str} (ha : Ev ta σ H (.str a)) (h : a.length ≤ 1000000) : Ev (tCB rLenT (tCons ta tNil)) σ H (.int (a.length : Int)) := fun H1 e Q q =>
  ha H1 e _ fun H2 e2 => ⟨a, rfl, Nat.le_trans h (by decide), q H2 e2⟩
/-- a text's slice -/
theorem ev_slS {tl th : TO} {w : Str} {lo hi : Option Int} (h : Ev te σ H (.str w)) (h1 : EvO tl σ H lo) (h2 : EvO th σ H hi) (hz : w.length ≤ 1000000) : Ev (tSl rSlS te tl th) σ H (.str (cutS w lo hi)) := fun H1 e _ q =>
  h H1 e _ fun H2 e2 => h1 H2 (e.trans e2) _ fun H3 e3 => h2 H3 ((e.trans e2).trans e3) _ fun H4 e4 => ⟨w, rfl, Nat.le_trans hz (by decide), q H4 ((e2.trans e3).trans e4)⟩
/-- a op b op' c -/
theorem ev_chain {b1 b2 : Bool} (ha : Ev ta σ H x) (hb : Ev tb σ H y) (hr : RV r x y H (.bl b1)) (hc : b1 = true → Ev tc σ H z) (hr' : b1 = true → RV r' y z H (.bl b2)) : Ev (tChain r r' ta tb tc) σ H (.bl (b1 && b2)) := fun H1 e Q q =>
  ha H1 e _ fun H2 e2 => hb H2 (e.trans e2) _ fun H3 e3 => hr H3 ((e.trans e2).trans e3) _ fun H4 e4 => ⟨b1, rfl, by
    cases b1 with
    | true =>
      show tc σ H4 _
      refine hc rfl H4 (((e.trans e2).trans e3).trans e4) _ fun H5 e5 => hr' rfl H5 ((((e.trans e2).trans e3).trans e4).trans e5) Q fun H6 e6 => ?_
      exact q H6 ((((e2.trans e3).trans e4).trans e5).trans e6)
    | false =>
      show Q (.bl false) H4
      exact q H4 ((e2.trans e3).trans e4)⟩
theorem et_chain {b1 b2 : Bool} (ha : Ev ta σ H x) (hb : Ev tb σ H y) (hr : RV r x y H (.bl b1)) (hc : b1 = true → Ev tc σ H z) (hr' : b1 = true → RV r' y z H (.bl b2)) : EvT (tTest (tChain r r' ta tb tc)) σ H (b1 && b2) :=
  et_test (ev_chain ha hb hr hc hr')
/-- int(i), int(b) -/
def rInt1 : List V → Hp → VK → Prop := fun xs H Q => (∃ i, xs = [.int i] ∧ Q (.int i) H) ∨ ∃ k, xs = [.bl k] ∧ Q (.int (if k then 1 else 0)) H
theorem call_intI {X : Cx} : CallR X (.type "int") rInt1 := call_int1
theorem rc_intI {i : Int} : RC rInt1 [.int i] H (.int i) := fun H1 _ _ q => .inl ⟨i, rfl, q H1 (Ex.refl H1)⟩
theorem rc_intB {k : Bool} : RC rInt1 [.bl k] H (.int (if k then 1 else 0)) := fun H1 _ _ q => .inr ⟨k, rfl, q H1 (Ex.refl H1)⟩
def rIntT : List V → Hp → VK → Prop := fun xs H Q => ∃ a n, xs = [.str a] ∧ PySem.intText? a = some n ∧ a.length ≤ 640 ∧ Q (.int n) H
theorem call_intT {X : Cx} : CallR X (.type "int") rIntT := call_int_str
theorem rc_intT {a : Str} {n : Int} (h : PySem.intText? a = some n) (hl : a.length ≤ 640) : RC rIntT [.str a] H (.int n) := fun H1 _ _ q => ⟨a, n, rfl, h, hl, q H1 (Ex.refl H1)⟩
def rAbs1 : List V → Hp → VK → Prop := fun xs H Q => ∃ i, xs = [.int i] ∧ Q (.int (if i < 0 then -i else i)) H
theorem call_absI {X : Cx} : CallR X (.builtin "abs") rAbs1 := call_abs
theorem rc_abs {i : Int} : RC rAbs1 [.int i] H (.int (if i < 0 then -i else i)) := fun H1 _ _ q => ⟨i, rfl, q H1 (Ex.refl H1)⟩
def rStrI : List V → Hp → VK → Prop := fun xs H Q => ∃ i : Int, xs = [.int i] ∧ i.natAbs.log2 < 1920 ∧ Q (.str (toString i)) H
theorem call_strI {X : Cx} : CallR X (.type "str") rStrI := call_str_int
theorem rc_strI {i : Int} (h : i.natAbs < 2 ^ 64) : RC rStrI [.int i] H (.str (toString i)) := fun H1 _ _ q => ⟨i, rfl, by
  by_cases h0 : i.natAbs = 0
  · rw [h0]
    decide
  · have := (Nat.log2_lt h0).mpr h
    omega, q H1 (Ex.refl H1)⟩
theorem rc_sum {a : Addr} {ns : List Int} (h : SqL K H a (ns.map V.int)) : RC (rSum K) [.ref a] H (.int ns.sum) := fun H1 e _ q => ⟨a, ns, rfl, ex_l e h, q H1 (Ex.refl H1)⟩
/-! statements over a text's signs -/
variable {D : Ends} {tu tz : TS}
theorem for_str {x : Str} {g : TG} {tb : TS} {σ : L2.St} {H : Hp} {D : Ends} (Pv : Nat → L2.St → Hp → Prop) (h0 : Pv 0 σ H) (hs : ∀ i c σ' H', x.cps[i]? = some c → Pv i σ' H' → g (.str ⟨#[c]⟩) σ' H' fun σ2 H2 => tb { D with nx := Pv (i + 1), ct := Pv (i + 1), bk := D.nx } σ2 H2)
    (hd : ∀ σ' H', Pv x.cps.size σ' H' → D.nx σ' H') : ∃ W : Nat → Nat → L2.St → Hp → Prop, (∃ m, W 0 m σ H) ∧ ∀ i m σ H, W i m σ H →
      ((Its x).stop i H ∧ D.nx σ H) ∨ ((Its x).go i H ∧ ∃ N : L2.St → Hp → Prop, (∀ σ' H', N σ' H' → ∃ m', m' < m ∧ W (i + 1) m' σ' H') ∧ ∀ y H', (Its x).yld i H y H' → g y σ H' fun σ2 H2 => tb { D with nx := N, ct := N, bk := D.nx } σ2 H2) := by
  refine ⟨fun i m σ' H' => i + m = x.cps.size ∧ Pv i σ' H', ⟨x.cps.size, Nat.zero_add _, h0⟩, fun i m σ' H' ⟨em, p⟩ => ?_⟩
  by_cases hi : i < x.cps.size
  · refine .inr ⟨hi, Pv (i + 1), fun σ2 H2 p2 => ⟨m - 1, by omega, by omega, p2⟩, fun y H2 hy => ?_⟩
    obtain ⟨rfl, c, hc, rfl⟩ := hy
    exact hs i c σ' _ hc p
  · have e : i = x.cps.size := by omega
    subst e
    exact .inl ⟨Nat.le_refl _, hd σ' H' p⟩
theorem q_forS {x : Str} {g : TG} {tl : TE} (h : Ev tl σ H (.str x)) (Pv : Nat → L2.St → Hp → Prop) (h0 : ∀ H1, Ex H H1 → Pv 0 σ H1) (hs : ∀ i c σ' H', x.cps[i]? = some c → Pv i σ' H' → g (.str ⟨#[c]⟩) σ' H' fun σ2 H2 => tu { D with nx := Pv (i + 1), ct := Pv (i + 1), bk := tz D } σ2 H2)
    (hd : ∀ σ' H', Pv x.cps.size σ' H' → tz D σ' H') : tSeq (tFor (iStr tl) g tu) tz D σ H := h H (Ex.refl H) _ fun H1 e => ⟨x, rfl, for_str (D := { D with nx := tz D }) Pv (h0 H1 e) hs hd⟩
end
end KEv
-- E1
namespace K87
open PySem PySem.Spec PyProof.Rows L2 Evl KEv TL
def topS (i : Nat) : Stmt := PySem.Challenge.pw_rulesonrules_k87_great_terms_shared.main.body.getD i (.Pass ⟨0, 0, 0, 0⟩)
theorem relS {x : Str} {t : Tok} : RelV (.str x) (.str x t) := ⟨t, rfl⟩
/-- a def of the text as it stands: its body, its name, how it binds -/
structure DefAt (K : PySem.W.Frag) (mg : Str → Option Value) (i : Nat) (x : Str) (ps : List Str) (f : Addr) (fd : FuncData) : Prop where
  F : Fun K x x (topS i) f fd
  g : mg x = some (.ref f)
  b : Binds K fd ps []
def small : Str := "abcdefghijklmnopqrstuvwxyz"
def capitals : Str := "ABCDEFGHIJKLMNOPQRSTUVWXYZ"
def digits : Str := "0123456789"
/-- the module's names that the defs read -/
structure Nm (mg : Str → Option Value) : Prop where
  len : mg "len" = none
  SMALL : ∃ t, mg "SMALL" = some (.str small t)
  DIGITS : ∃ t, mg "DIGITS" = some (.str digits t)
  CAPITALS : ∃ t, mg "CAPITALS" = some (.str capitals t)
section
variable {P : Program} {w : World} {K : PySem.W.Frag} {mg : Str → Option Value} {base : Heap}
/-! is_name -/
/-- the first one is among these -/
def headIn (s : List Nat) : List Nat → Bool
  | [] => false
  | c :: _ => decide (c ∈ s)
def nameB (l : List Nat) : Bool := decide (1 ≤ l.length) && decide (l.length ≤ 24) && headIn (tl small) l && l.all fun c => decide (c ∈ tl small) || decide (c ∈ tl digits)
def spIsName : Sp := fun vs H Q _ => ∃ x : Str, vs = [.str x] ∧ x.length ≤ 100000 ∧ RetV (.bl (nameB (tl x))) H Q
theorem tl_ix {x : Str} {i : Nat} {c : Nat} (h : x.cps[i]? = some c) : (tl x)[i]? = some c := by
  rw [← h]
  exact Array.getElem?_toList
theorem tl_size (x : Str) : x.cps.size = (tl x).length := by simp [tl]
theorem all_take {p : Nat → Bool} {l : List Nat} {i c : Nat} (h : l[i]? = some c) : (l.take (i + 1)).all p = ((l.take i).all p && p c) := by
  rw [List.take_add_one, h, List.all_append]
  simp
theorem all_not {p : Nat → Bool} {l : List Nat} {i c : Nat} (h : l[i]? = some c) (hp : p c = false) : l.all p = false := by
  apply Bool.eq_false_iff.mpr
  intro z
  rw [List.all_eq_true] at z
  rw [z c (List.mem_of_getElem? h)] at hp
  cases hp
theorem scIsName : FnScope ["text", "sign"] ["text"] (defScope (topS 16)) := ⟨rfl, rfl, rfl, by decide +kernel, rfl, by decide +kernel, by decide +kernel⟩
theorem ok_is_name {f : Addr} {fd : FuncData} (D : DefAt K mg 16 "is_name" ["text"] f fd) (N : Nm mg) : FnOk P w K mg base CX0 1 f fd ["text"] spIsName := by
  obtain ⟨t1, gS⟩ := N.SMALL
  obtain ⟨t2, gD⟩ := N.DIGITS
  refine D.F.ok scIsName (fun vs H Q E h => ?_) (fun cdv A outer s H vs Q E hr h => ?_)
  · obtain ⟨x, rfl, _⟩ := h
    rfl
  · obtain ⟨x, rfl, hl, k⟩ := h
    refine ⟨_, pss_cons (ps_if (PW.pt (pw_or (pt_not (pt_chain op_le op_le pe_int (pe_callB call_lenT (by rfl) N.len PySem.boot_len (pa_cons (pv 0) pa_nil)) pe_int))
        (pw_or1 (pt_cmpR op_niS (pe_ix ix_str (pv 0) pe_int (fun _ _ => rfl)) (pe_glob rfl gS relS) rfl)))) (pss_one (ps_ret pe_bl)) pss_nil)
      (pss_cons (ps_for PassesOwn.never rfl (pi_str (pv 0)) (pg_name (i := 1) scIsName.nd rfl (.inl rfl))
        (pss_one (ps_if (PW.pt (pw_and (pt_cmpR op_niS (pv 1) (pe_glob rfl gS relS) rfl) (pw_and1 (pt_cmpR op_niS (pv 1) (pe_glob rfl gD relS) rfl)))) (pss_one (ps_ret pe_bl)) pss_nil)))
      (pss_one (ps_ret pe_bl))), ?_⟩
    have el : (x.length : Int) = ((tl x).length : Int) := by rw [len_tl]
    -- if not 1 <= len(text) <= 24 or text[0] not in SMALL
    refine q_when (b := !(decide (1 ≤ (tl x).length) && decide ((tl x).length ≤ 24) && headIn (tl small) (tl x))) ?_ (fun hb H1 e1 => ?_) (fun hb H1 e1 => ?_)
    · refine et_is (et_or (et_not (et_chain ev_c (ev_lenT (a := x) (ev_var rfl) (by omega)) rv_I0 (fun _ => ev_c) (fun _ => rv_I0))) (b := !headIn (tl small) (tl x)) (fun h1 => ?_)) ?_
      · rw [Bool.not_eq_false', Bool.and_eq_true, decide_eq_true_eq] at h1
        cases ex : tl x with
        | nil =>
          rw [el, ex] at h1
          exact absurd h1.1 (by decide)
        | cons c r => exact et_test (ev_op (ev_op (ev_var rfl) ev_c (rv_ixS hl (c := c) (by rw [show x.cps.toList = c :: r from ex]; exact atI_nat (j := 0) rfl))) ev_c rv_niS)
      · rw [el]
        have h1 : decide ((1 : Int) ≤ ((tl x).length : Int)) = decide (1 ≤ (tl x).length) := decide_eq_decide.mpr (by omega)
        have h2 : decide (((tl x).length : Int) ≤ 24) = decide ((tl x).length ≤ 24) := decide_eq_decide.mpr (by omega)
        rw [h1, h2]
        cases decide (1 ≤ (tl x).length) <;> cases decide ((tl x).length ≤ 24) <;> rfl
    · refine s_ret ev_c fun H2 e2 => ?_
      have hn : nameB (tl x) = false := by
        unfold nameB
        rw [Bool.not_eq_true'] at hb
        rw [hb]
        rfl
      rw [hn] at k
      exact k H2 (e1.trans e2)
    · rw [Bool.not_eq_false'] at hb
      refine q_forS (x := x) (ev_var rfl) (fun i σ H2 => (∃ y, σ = [some (.str x), y]) ∧ Ex H H2 ∧ ((tl x).take i).all (fun c => decide (c ∈ tl small) || decide (c ∈ tl digits)) = true) (fun H2 e2 => ⟨⟨_, rfl⟩, e1.trans e2, rfl⟩) (fun i c σ H2 hc p => ?_) (fun σ H2 p => ?_)
      · obtain ⟨⟨y, rfl⟩, e2, ha⟩ := p
        have hc' := tl_ix hc
        refine s_when (b := !decide (c ∈ tl small) && !decide (c ∈ tl digits)) (et_and (et_test (ev_op (ev_var rfl) ev_c rv_niS)) fun _ => et_test (ev_op (ev_var rfl) ev_c rv_niS)) (fun h1 H3 e3 => ?_) (fun h1 H3 e3 => ?_)
        · refine s_ret ev_c fun H4 e4 => ?_
          have hn : nameB (tl x) = false := by
            unfold nameB
            rw [all_not hc' (by cases h5 : decide (c ∈ tl small) <;> cases h6 : decide (c ∈ tl digits) <;> simp_all), Bool.and_false]
          rw [hn] at k
          exact k H4 ((e2.trans e3).trans e4)
        · refine ⟨⟨_, rfl⟩, e2.trans e3, ?_⟩
          rw [all_take hc', ha]
          cases h5 : decide (c ∈ tl small) <;> cases h6 : decide (c ∈ tl digits) <;> simp_all
      · obtain ⟨⟨y, rfl⟩, e2, ha⟩ := p
        refine s_ret ev_c fun H4 e4 => ?_
        have hn : nameB (tl x) = true := by
          unfold nameB
          rw [tl_size, List.take_length] at ha
          rw [hb, ha]
          rfl
        rw [hn] at k
        exact k H4 (e2.trans e4)
end
end K87
-- E2
namespace K87
open PySem PySem.Spec PyProof.Rows L2 Evl KEv TL
section
variable {P : Program} {w : World} {K : PySem.W.Frag} {mg : Str → Option Value} {base : Heap}
/-! is_letter -/
theorem tl_cut1 (x : Str) : tl (cutS x (some 1) none) = (tl x).drop 1 := by
  show (List.take (HT.sIx x.length x.length none - HT.sIx x.length 0 (some 1)) (List.drop (HT.sIx x.length 0 (some 1)) x.cps.toList)).toArray.toList = _
  rw [List.toList_toArray, show HT.sIx x.length 0 (some 1) = min 1 x.length from HT.sIx_nat x.length 0 1, HT.sIx_none]
  have e : x.length = x.cps.toList.length := by simp [Str.length]
  show List.take _ (List.drop (min 1 x.length) (tl x)) = _
  cases h : tl x with
  | nil => simp
  | cons c r =>
    have e2 : x.length = r.length + 1 := by rw [len_tl, h]; rfl
    rw [e2, show min 1 (r.length + 1) = 1 by omega]
    exact List.take_of_length_le (by simp)
/-- the second sign is this one -/
def secondIs (c : Nat) : List Nat → Bool
  | _ :: d :: _ => decide (d = c)
  | _ => false
def letterB (l : List Nat) (n : Int) : Bool := decide (2 ≤ l.length) && decide ((l.length : Int) ≤ n + 1) && headIn (tl capitals) l && !(secondIs 48 l && decide (2 < l.length)) && (l.drop 1).all fun c => decide (c ∈ tl digits)
def spIsLetter : Sp := fun vs H Q _ => ∃ (x : Str) (n : Int), vs = [.str x, .int n] ∧ x.length ≤ 100000 ∧ RetV (.bl (letterB (tl x) n)) H Q
theorem scIsLetter : FnScope ["text", "digits", "digit"] ["text", "digits"] (defScope (topS 17)) := ⟨rfl, rfl, rfl, by decide +kernel, rfl, by decide +kernel, by decide +kernel⟩
theorem zero_eq {c : Nat} : decide (V.str ⟨#[c]⟩ = V.str "0") = decide (c = 48) := by
  apply decide_eq_decide.mpr
  constructor
  · intro h
    have h2 := congrArg tl (V.str.inj h)
    have h3 : [c] = [48] := h2
    exact List.head_eq_of_cons_eq h3
  · intro h
    rw [h]
    rfl
theorem ok_is_letter {f : Addr} {fd : FuncData} (F : FunD K "is_letter" "is_letter" (defArgs (topS 17)) (defBody (topS 17)) (defScope (topS 17)) [.int 9] [] f fd) (N : Nm mg) : FnOk P w K mg base CX0 1 f fd ["text", "digits"] spIsLetter := by
  obtain ⟨t1, gC⟩ := N.CAPITALS
  obtain ⟨t2, gD⟩ := N.DIGITS
  refine F.ok scIsLetter (fun vs H Q E h => ?_) (fun cdv A outer s H vs Q E hr h => ?_)
  · obtain ⟨x, n, rfl, _⟩ := h
    rfl
  · obtain ⟨x, n, rfl, hl, k⟩ := h
    refine ⟨_, PSs.nox (pss_cons (ps_if (PW.pt (pw_or (pt_not (pt_chain op_le op_le pe_int (pe_callB call_lenT (by rfl) N.len PySem.boot_len (pa_cons (pv 0) pa_nil)) (pe_op op_add (pv 1) pe_int)))
        (pw_or1 (pt_cmpR op_niS (pe_ix ix_str (pv 0) pe_int (fun _ _ => rfl)) (pe_glob rfl gC relS) rfl)))) (pss_one (ps_ret pe_bl)) pss_nil)
      (pss_cons (ps_if (PW.pt (pw_and (pt_cmpR op_eq (pe_ix ix_str (pv 0) pe_int (fun _ _ => rfl)) pe_str (nomark _)) (pw_and1 (pt_cmpR op_gt (pe_callB call_lenT (by rfl) N.len PySem.boot_len (pa_cons (pv 0) pa_nil)) pe_int (nomark _))))) (pss_one (ps_ret pe_bl)) pss_nil)
      (pss_cons (ps_for PassesOwn.never rfl (pi_str (pe_slice sl_str (pv 0) (po_some pe_int) po_none)) (pg_name (i := 2) scIsLetter.nd rfl (.inl rfl))
        (pss_one (ps_if (pt_cmpR op_niS (pv 2) (pe_glob rfl gD relS) rfl) (pss_one (ps_ret pe_bl)) pss_nil)))
      (pss_one (ps_ret pe_bl))))), ?_⟩
    have el : (x.length : Int) = ((tl x).length : Int) := by rw [len_tl]
    refine q_when (b := !(decide (2 ≤ (tl x).length) && decide (((tl x).length : Int) ≤ n + 1) && headIn (tl capitals) (tl x))) ?_ (fun hb H1 e1 => ?_) (fun hb H1 e1 => ?_)
    · refine et_is (et_or (et_not (et_chain ev_c (ev_lenT (a := x) (ev_var rfl) (by omega)) rv_I0 (fun _ => ev_op (ev_var rfl) ev_c rv_I0) (fun _ => rv_I0))) (b := !headIn (tl capitals) (tl x)) (fun h1 => ?_)) ?_
      · rw [Bool.not_eq_false', Bool.and_eq_true, decide_eq_true_eq] at h1
        cases ex : tl x with
        | nil =>
          rw [el, ex] at h1
          exact absurd h1.1 (by decide)
        | cons c r => exact et_test (ev_op (ev_op (ev_var rfl) ev_c (rv_ixS hl (c := c) (by rw [show x.cps.toList = c :: r from ex]; exact atI_nat (j := 0) rfl))) ev_c rv_niS)
      · rw [el]
        have h1 : decide ((2 : Int) ≤ ((tl x).length : Int)) = decide (2 ≤ (tl x).length) := decide_eq_decide.mpr (by omega)
        rw [h1]
        cases decide (2 ≤ (tl x).length) <;> cases decide (((tl x).length : Int) ≤ n + 1) <;> rfl
    · refine s_ret ev_c fun H2 e2 => ?_
      have hn : letterB (tl x) n = false := by
        unfold letterB
        rw [Bool.not_eq_true'] at hb
        rw [hb]
        rfl
      rw [hn] at k
      exact k H2 (e1.trans e2)
    · rw [Bool.not_eq_false'] at hb
      have h2 : 2 ≤ (tl x).length := by
        rw [Bool.and_eq_true, Bool.and_eq_true, decide_eq_true_eq] at hb
        exact hb.1.1
      obtain ⟨c, d, r, ex⟩ : ∃ c d r, tl x = c :: d :: r := by
        cases ex : tl x with
        | nil => rw [ex] at h2; simp at h2
        | cons c r =>
          cases r with
          | nil => rw [ex] at h2; simp at h2
          | cons d r => exact ⟨c, d, r, rfl⟩
      refine q_when (b := secondIs 48 (tl x) && decide (2 < (tl x).length)) ?_ (fun hb2 H2 e2 => ?_) (fun hb2 H2 e2 => ?_)
      · refine et_is (et_and (et_test (ev_op (ev_op (ev_var rfl) ev_c (rv_ixS hl (c := d) (by rw [show x.cps.toList = c :: d :: r from ex]; exact atI_nat (j := 1) rfl))) ev_c (rv_eq rfl))) fun _ => et_test (ev_op (ev_lenT (a := x) (ev_var rfl) (by omega)) ev_c rv_I0)) ?_
        rw [zero_eq, el, ex]
        have h3 : decide ((2 : Int) < ((c :: d :: r).length : Int)) = decide (2 < (c :: d :: r).length) := decide_eq_decide.mpr (by omega)
        rw [h3]
        rfl
      · refine s_ret ev_c fun H3 e3 => ?_
        have hn : letterB (tl x) n = false := by
          unfold letterB
          rw [hb2, Bool.not_true, Bool.and_false, Bool.false_and]
        rw [hn] at k
        exact k H3 ((e1.trans e2).trans e3)
      · refine q_forS (x := cutS x (some 1) none) (ev_slS (ev_var rfl) (eo_some ev_c) eo_none (by omega)) (fun i σ H2 => (∃ y, σ = [some (.str x), some (.int n), y]) ∧ Ex H H2 ∧ (((tl x).drop 1).take i).all (fun c => decide (c ∈ tl digits)) = true) (fun H3 e3 => ⟨⟨_, rfl⟩, (e1.trans e2).trans e3, rfl⟩) (fun i c σ H2 hc p => ?_) (fun σ H2 p => ?_)
        · obtain ⟨⟨y, rfl⟩, e2, ha⟩ := p
          have hc' := tl_ix hc
          rw [tl_cut1] at hc'
          refine s_when (et_test (ev_op (ev_var rfl) ev_c rv_niS)) (fun h1 H3 e3 => ?_) (fun h1 H3 e3 => ?_)
          · refine s_ret ev_c fun H4 e4 => ?_
            have hn : letterB (tl x) n = false := by
              unfold letterB
              rw [all_not hc' (by simpa using h1), Bool.and_false]
            rw [hn] at k
            exact k H4 ((e2.trans e3).trans e4)
          · refine ⟨⟨_, rfl⟩, e2.trans e3, ?_⟩
            rw [all_take hc', ha]
            simpa using h1
        · obtain ⟨⟨y, rfl⟩, e2, ha⟩ := p
          refine s_ret ev_c fun H4 e4 => ?_
          have hn : letterB (tl x) n = true := by
            unfold letterB
            rw [tl_size, tl_cut1, List.take_length] at ha
            rw [hb, ha, hb2]
            rfl
          rw [hn] at k
          exact k H4 (e2.trans e4)
end
end K87
-- KDraw
/-! what is drawn: a list of whole numbers that every taking changes; all else that is known stays -/
namespace KD
open PySem PySem.Spec PyProof.Rows L2 Evl KEv
def GoodL (xs : List Int) : Prop := xs.length ≤ 10000 ∧ ∀ x ∈ xs, 0 ≤ x ∧ x < 2147483647
def Dr (H : Hp) (d : Addr) : Prop := ∃ xs, GoodL xs ∧ H d = some (.lst (xs.map V.int))
/-- B is known of H, the draws stand at d (and are not part of B) -/
structure Sd (B : Hp) (d : Addr) (H : Hp) : Prop where
  ex : Ex B H
  no : B d = none
  dr : Dr H d
def hide (H : Hp) (d : Addr) : Hp := fun b => if b = d then none else H b
theorem hide_at {H : Hp} {d : Addr} : hide H d d = none := by
  unfold hide
  rw [if_pos rfl]
theorem hide_ne {H : Hp} {d b : Addr} (h : b ≠ d) : hide H d b = H b := by
  unfold hide
  rw [if_neg h]
theorem hide_ex {H : Hp} {d : Addr} : Ex (hide H d) H := fun b o e => by
  by_cases h : b = d
  · rw [h, hide_at] at e
    cases e
  · rwa [hide_ne h] at e
theorem Sd.of {H : Hp} {d : Addr} (h : Dr H d) : Sd (hide H d) d H := ⟨hide_ex, hide_at, h⟩
theorem Dr.mono {H H' : Hp} {d : Addr} (e : Ex H H') (h : Dr H d) : Dr H' d := by
  obtain ⟨xs, g, h⟩ := h
  exact ⟨xs, g, e _ _ h⟩
theorem Sd.mono {B H H' : Hp} {d : Addr} (s : Sd B d H) (e : Ex H H') : Sd B d H' := ⟨s.ex.trans e, s.no, s.dr.mono e⟩
theorem Sd.ne {B H : Hp} {d p : Addr} (s : Sd B d H) (h : H p = none) : p ≠ d := fun z => by
  obtain ⟨xs, _, e⟩ := s.dr
  rw [z, e] at h
  cases h
/-- B lies below what H hides nothing but the draws of -/
theorem Sd.below {B H : Hp} {d : Addr} (s : Sd B d H) : Ex B (hide H d) := fun b o e => by
  have h : b ≠ d := fun z => by
    rw [z, s.no] at e
    cases e
  rw [hide_ne h]
  exact s.ex b o e
/-- one more object is known -/
theorem Sd.known {B H : Hp} {d p : Addr} {o : HO} (s : Sd B d H) (h : p ≠ d) (e : H p = some o) : Sd (upd B p o) d H := ⟨fun b u q => by
    by_cases hb : b = p
    · rw [hb, upd_same] at q
      rw [hb, e, ← q]
    · rw [upd_ne hb] at q
      exact s.ex b u q, by rw [upd_ne (Ne.symm h)]; exact s.no, s.dr⟩
/-- the draws are changed -/
theorem Sd.drawn {B H : Hp} {d : Addr} {xs : List Int} (s : Sd B d H) (g : GoodL xs) : Sd B d (upd H d (.lst (xs.map V.int))) := ⟨s.ex.mut s.no, s.no, xs, g, upd_same⟩
/-- an object that is known is changed -/
theorem Sd.change {B H : Hp} {d p : Addr} {o u : HO} (s : Sd B d H) (h : B p = some u) : Sd (upd B p o) d (upd H p o) := by
  have hd : p ≠ d := fun z => by
    rw [z, s.no] at h
    cases h
  refine ⟨fun b v q => ?_, by rw [upd_ne (Ne.symm hd)]; exact s.no, ?_⟩
  · by_cases hb : b = p
    · rw [hb, upd_same] at q
      rw [hb, upd_same, q]
    · rw [upd_ne hb] at q ⊢
      exact s.ex b v q
  · obtain ⟨xs, g, e⟩ := s.dr
    exact ⟨xs, g, by rw [upd_ne (Ne.symm hd)]; exact e⟩
/-- a promise of a def that draws: A of the other arguments, R of its value -/
def spGen (A : List V → Hp → Prop) (R : List V → V → Hp → Prop) : Sp := fun vs H Q _ => ∃ (d : Addr) (rest : List V), vs = .ref d :: rest ∧ Dr H d ∧ A rest (hide H d) ∧ ∀ v B' H', Ex (hide H d) B' → Sd B' d H' → R rest v B' → Q v H'
def EvG (te : TE) (σ : L2.St) (B : Hp) (d : Addr) (R : V → Hp → Prop) : Prop := ∀ H, Sd B d H → ∀ Q : VK, (∀ v B' H', Ex B B' → Sd B' d H' → R v B' → Q v H') → te σ H Q
def EvGT (tt : TT) (σ : L2.St) (B : Hp) (d : Addr) (R : Bool → Hp → Prop) : Prop := ∀ H, Sd B d H → ∀ Q : Bool → Hp → Prop, (∀ b B' H', Ex B B' → Sd B' d H' → R b B' → Q b H') → tt σ H Q
def EvGA (ta : TA) (σ : L2.St) (B : Hp) (d : Addr) (R : List V → Hp → Prop) : Prop := ∀ H, Sd B d H → ∀ Q : List V → Hp → Prop, (∀ vs B' H', Ex B B' → Sd B' d H' → R vs B' → Q vs H') → ta σ H Q
section
variable {K : PySem.W.Frag} {σ : L2.St} {B H : Hp} {d : Addr} {ta tb te : TE} {tt tu : TT} {v x y z : V} {xs : List V} {R Ra R' : V → Hp → Prop} {r : R2}
theorem eg_lift (h : Ev te σ B v) : EvG te σ B d fun u B' => u = v ∧ B' = B := fun H s Q q => h H s.ex Q fun H2 e2 => q v B H2 (Ex.refl B) (s.mono e2) ⟨rfl, rfl⟩
theorem eg_liftL (h : EvL te σ B xs) : EvG te σ B d fun u B' => ∃ p, u = .ref p ∧ B p = none ∧ p ≠ d ∧ B' = upd B p (.lst xs) := fun H s Q q => h H s.ex Q fun p H2 hp e2 h2 => by
  have nb : B p = none := fresh_back s.ex hp
  exact q (.ref p) (upd B p (.lst xs)) H2 (Ex.new nb) ((s.mono e2).known (s.ne hp) h2) ⟨p, rfl, nb, s.ne hp, rfl⟩
theorem eg_liftU (h : EvU te σ B xs) : EvG te σ B d fun u B' => ∃ p, u = .ref p ∧ B p = none ∧ p ≠ d ∧ B' = upd B p (.tup xs) := fun H s Q q => h H s.ex Q fun p H2 hp e2 h2 => by
  have nb : B p = none := fresh_back s.ex hp
  exact q (.ref p) (upd B p (.tup xs)) H2 (Ex.new nb) ((s.mono e2).known (s.ne hp) h2) ⟨p, rfl, nb, s.ne hp, rfl⟩
theorem EvG.imp (h : EvG te σ B d R) (hi : ∀ v B', Ex B B' → R v B' → R' v B') : EvG te σ B d R' := fun H s Q q => h H s Q fun v B' H' e s' r => q v B' H' e s' (hi v B' e r)
theorem eg_op {Rb : V → V → Hp → Prop} (ha : EvG ta σ B d Ra) (hb : ∀ x B1, Ex B B1 → Ra x B1 → EvG tb σ B1 d (Rb x)) (hr : ∀ x y B1 B2, Ex B B1 → Ra x B1 → Ex B1 B2 → Rb x y B2 → ∃ z, RV r x y B2 z ∧ R z B2) : EvG (tOp r ta tb) σ B d R := fun H s Q q =>
  ha H s _ fun x B1 H1 e1 s1 r1 => hb x B1 e1 r1 H1 s1 _ fun y B2 H2 e2 s2 r2 => by
    obtain ⟨z, hz, rz⟩ := hr x y B1 B2 e1 r1 e2 r2
    exact hz H2 s2.ex Q fun H3 e3 => q z B2 H3 (e1.trans e2) (s2.mono e3) rz
theorem ega_nil : EvGA tNil σ B d fun vs B' => vs = [] ∧ B' = B := fun H s Q q => q [] B H (Ex.refl B) s ⟨rfl, rfl⟩
theorem ega_cons {tr : TA} {Rr : V → List V → Hp → Prop} {Rw : List V → Hp → Prop} (h : EvG te σ B d R) (hr : ∀ v B1, Ex B B1 → R v B1 → EvGA tr σ B1 d (Rr v)) (hw : ∀ v vs B1 B2, Ex B B1 → R v B1 → Ex B1 B2 → Rr v vs B2 → Rw (v :: vs) B2) : EvGA (tCons te tr) σ B d Rw := fun H s Q q =>
  h H s _ fun v B1 H1 e1 s1 r1 => hr v B1 e1 r1 H1 s1 _ fun vs B2 H2 e2 s2 r2 => q (v :: vs) B2 H2 (e1.trans e2) s2 (hw v vs B1 B2 e1 r1 e2 r2)
theorem ega_lift {ta : TA} {vs : List V} (h : EvA ta σ B vs) : EvGA ta σ B d fun us B' => us = vs ∧ B' = B := fun H s Q q => h H s.ex Q fun H2 e2 => q vs B H2 (Ex.refl B) (s.mono e2) ⟨rfl, rfl⟩
/-- a call of a def that draws: its first argument the draws -/
theorem eg_call {ta : TA} {A : List V → Hp → Prop} {Rc : List V → V → Hp → Prop} {Rs : List V → Hp → Prop} {E : XK} (h : EvGA ta σ B d Rs) (ha : ∀ us B1 H1, Ex B B1 → Rs us B1 → Ex B1 H1 → ∃ rest, us = .ref d :: rest ∧ A rest H1) (hr : ∀ rest B1 B2 v, Ex B B1 → Rs (.ref d :: rest) B1 → Ex B1 B2 → Rc rest v B2 → R v B2) :
    EvG (tCall (spGen A Rc) [] E ta) σ B d R := fun H s Q q => h H s _ fun us B1 H1 e1 s1 r1 => by
  obtain ⟨rest, eu, hA⟩ := ha us B1 (hide H1 d) e1 r1 s1.below
  subst eu
  refine ⟨d, rest, List.append_nil _, s1.dr, hA, fun v B2 H2 e2 s2 r2 => ?_⟩
  exact q v B2 H2 ((e1.trans s1.below).trans e2) s2 (hr rest B1 B2 v e1 r1 (s1.below.trans e2) r2)
/-! tests -/
theorem egt_test {Rt : Bool → Hp → Prop} (h : EvG te σ B d R) (hb : ∀ v B', Ex B B' → R v B' → ∃ b, v = .bl b ∧ Rt b B') : EvGT (tTest te) σ B d Rt := fun H s Q q => h H s _ fun v B' H' e s' r => by
  obtain ⟨b, eb, rb⟩ := hb v B' e r
  exact ⟨b, eb, q b B' H' e s' rb⟩
theorem egt_lift {b : Bool} (h : EvT tt σ B b) : EvGT tt σ B d fun c B' => c = b ∧ B' = B := fun H s Q q => h H s.ex Q fun H2 e2 => q b B H2 (Ex.refl B) (s.mono e2) ⟨rfl, rfl⟩
theorem egt_and {Rt Ru Rw : Bool → Hp → Prop} (h1 : EvGT tt σ B d Rt) (h2 : ∀ B1, Ex B B1 → Rt true B1 → EvGT tu σ B1 d Ru) (hf : ∀ B1, Ex B B1 → Rt false B1 → Rw false B1) (hw : ∀ b B1 B2, Ex B B1 → Rt true B1 → Ex B1 B2 → Ru b B2 → Rw b B2) : EvGT (tAnd tt tu) σ B d Rw := fun H s Q q =>
  h1 H s _ fun b B1 H1 e1 s1 r1 => by
    cases b with
    | true =>
      show tu σ H1 Q
      exact h2 B1 e1 r1 H1 s1 Q fun c B2 H2 e2 s2 r2 => q c B2 H2 (e1.trans e2) s2 (hw c B1 B2 e1 r1 e2 r2)
    | false =>
      show Q false H1
      exact q false B1 H1 e1 s1 (hf B1 e1 r1)
/-! statements -/
variable {D : Ends} {ts tw tz : TS}
theorem g_asg {i : Nat} (h : EvG te σ B d R) (s : Sd B d H) (k : ∀ v B' H', Ex B B' → Sd B' d H' → R v B' → D.nx (σ.set i (some v)) H') : tAsg te (gName i) D σ H := h H s _ fun v B' H' e s' r => k v B' H' e s' r
theorem gq_asg {i : Nat} (h : EvG te σ B d R) (s : Sd B d H) (k : ∀ v B' H', Ex B B' → Sd B' d H' → R v B' → tz D (σ.set i (some v)) H') : tSeq (tAsg te (gName i)) tz D σ H := h H s _ fun v B' H' e s' r => k v B' H' e s' r
theorem g_ret (h : EvG te σ B d R) (s : Sd B d H) (k : ∀ v B' H', Ex B B' → Sd B' d H' → R v B' → D.rt v H') : tRet te D σ H := h H s _ fun v B' H' e s' r => k v B' H' e s' r
theorem g_if {Rt : Bool → Hp → Prop} (h : EvGT tt σ B d Rt) (s : Sd B d H) (h1 : ∀ B' H', Ex B B' → Sd B' d H' → Rt true B' → ts D σ H') (h2 : ∀ B' H', Ex B B' → Sd B' d H' → Rt false B' → tw D σ H') : tIfS tt ts tw D σ H := h H s _ fun b B' H' e s' r => by
  cases b with
  | true =>
    show ts D σ H'
    exact h1 B' H' e s' r
  | false =>
    show tw D σ H'
    exact h2 B' H' e s' r
/-- an if, then the rest: what stands between is told once -/
theorem gq_if {Rt : Bool → Hp → Prop} (h : EvGT tt σ B d Rt) (s : Sd B d H) (h1 : ∀ B' H', Ex B B' → Sd B' d H' → Rt true B' → ts { D with nx := tz D } σ H') (h2 : ∀ B' H', Ex B B' → Sd B' d H' → Rt false B' → tw { D with nx := tz D } σ H') : tSeq (tIfS tt ts tw) tz D σ H :=
  g_if (D := { D with nx := tz D }) h s h1 h2
/-- for k in range(n): the turns draw -/
theorem g_range {j : Nat} {n : Nat} {ta : TA} {tb : TS} (h : EvA ta σ B [.int (n : Int)]) (s : Sd B d H) (hn : n ≤ 100000) (Pv : Nat → L2.St → Hp → Prop) (h0 : ∀ H', Sd B d H' → Pv 0 σ H')
    (hs : ∀ (i : Nat) σ' H', i < n → Pv i σ' H' → tb { D with nx := Pv (i + 1), ct := Pv (i + 1), bk := tz D } (σ'.set j (some (.int (i : Int)))) H') (hd : ∀ σ' H', Pv n σ' H' → tz D σ' H') : tSeq (tFor (iRng1 ta) (gName j) tb) tz D σ H :=
  q_forR1 (H := H) (fun H1 e Q q => h H1 (s.ex.trans e) Q q) ⟨by omega, by omega⟩ Pv (fun H1 e => h0 H1 (s.mono e)) (fun i σ' H' hi p => hs i σ' H' (by omega) p) (fun σ' H' p => hd σ' H' (by simpa using p))
end
/-! the taking itself -/
def takeA : List V → Hp → Prop := fun rest _ => ∃ m : Int, rest = [.int m] ∧ 0 < m
def takeR : List V → V → Hp → Prop := fun rest v _ => ∃ m r : Int, rest = [.int m] ∧ v = .int r ∧ 0 ≤ r ∧ r < m
abbrev spTake : Sp := spGen takeA takeR
section
variable {K : PySem.W.Frag} {σ : L2.St} {B H : Hp} {d : Addr} {ta tb te td : TE} {E : XK}
theorem eg_take {m : Int} (hd : Ev td σ B (.ref d)) (hm : Ev te σ B (.int m)) (h0 : 0 < m) : EvG (tCall spTake [] E (tCons td (tCons te tNil))) σ B d fun v B' => (∃ r, v = .int r ∧ 0 ≤ r ∧ r < m) ∧ Ex B B' :=
  eg_call (ega_lift (ea_cons hd (ea_cons hm ea_nil))) (fun us B1 H1 _ e _ => ⟨[.int m], e.1, m, rfl, h0⟩) fun rest B1 B2 v e1 h e2 hr => by
    obtain ⟨m', r, er, ev, r0, r1⟩ := hr
    have e3 := h.1
    rw [er] at e3
    have e4 : m' = m := by
      have := List.cons.inj (List.cons.inj e3).2
      exact V.int.inj this.1
    rw [e4] at r1
    exact ⟨⟨r, ev, r0, r1⟩, e1.trans e2⟩
/-- a written text at a drawn place -/
theorem eg_sign {w : Str} {ti : TE} {n : Int} (hw : Ev te σ B (.str w)) (hi : EvG ti σ B d fun v B' => (∃ r, v = .int r ∧ 0 ≤ r ∧ r < n) ∧ Ex B B') (hn : n ≤ (w.length : Int)) (hl : w.length ≤ 100000) : EvG (tOp rIxS te ti) σ B d fun v B' => (∃ c, v = .str ⟨#[c]⟩ ∧ c ∈ TL.tl w) ∧ Ex B B' :=
  eg_op (eg_lift hw) (fun x B1 _ e => by rw [e.2]; exact hi) fun x y B1 B2 _ hx e2 hy => by
    obtain ⟨⟨r, ey, r0, r1⟩, e3⟩ := hy
    have hr : r.toNat < w.cps.toList.length := by
      have : w.length = w.cps.toList.length := by simp [Str.length]
      omega
    obtain ⟨c, hc⟩ : ∃ c, w.cps.toList[r.toNat]? = some c := ⟨_, List.getElem?_eq_getElem hr⟩
    rw [hx.1, ey]
    exact ⟨_, rv_ixS hl (by rw [show r = ((r.toNat : Nat) : Int) by omega]; exact atI_nat hc), ⟨c, rfl, List.mem_of_getElem? hc⟩, e3⟩
end
end KD
-- KDraw2
namespace KD
open PySem PySem.Spec PyProof.Rows L2 Evl KEv
section
variable {K : PySem.W.Frag} {σ : L2.St} {B H : Hp} {d : Addr} {ta tb te td tc : TE} {x : V} {R Rb : V → Hp → Prop} {r : R2} {E : XK}
/-- the left one pure -/
theorem eg_opV (ha : Ev ta σ B x) (hb : EvG tb σ B d Rb) (hr : ∀ y B2, Ex B B2 → Rb y B2 → ∃ z, RV r x y B2 z ∧ R z B2) : EvG (tOp r ta tb) σ B d R :=
  eg_op (Rb := fun _ => Rb) (eg_lift ha) (fun u B1 _ hu => by rw [hu.2]; exact hb) fun u y B1 B2 _ hu e2 hy => by
    rw [hu.1]
    rw [hu.2] at e2
    exact hr y B2 e2 hy
/-- the right one pure -/
theorem eg_opW {y : V} (ha : EvG ta σ B d Rb) (hb : ∀ u B1, Ex B B1 → Rb u B1 → Ev tb σ B1 y) (hr : ∀ u B1, Ex B B1 → Rb u B1 → ∃ z, RV r u y B1 z ∧ R z B1) : EvG (tOp r ta tb) σ B d R := fun H s Q q =>
  ha H s _ fun u B1 H1 e1 s1 r1 => hb u B1 e1 r1 H1 s1.ex _ fun H2 e2 => by
    obtain ⟨z, hz, rz⟩ := hr u B1 e1 r1
    exact hz H2 (s1.ex.trans e2) Q fun H3 e3 => q z B1 H3 e1 ((s1.mono e2).mono e3) rz
/-- a drawn number -/
theorem eg_takeN {m : Int} (hd : Ev td σ B (.ref d)) (hm : Ev te σ B (.int m)) (h0 : 0 < m) : EvG (tCall spTake [] E (tCons td (tCons te tNil))) σ B d fun v _ => ∃ n : Nat, v = .int (n : Int) ∧ (n : Int) < m :=
  (eg_take hd hm h0).imp fun v B' _ h => by
    obtain ⟨⟨r, rfl, r0, r1⟩, _⟩ := h
    exact ⟨r.toNat, by rw [Int.toNat_of_nonneg r0], by omega⟩
/-- a drawn sign of a text -/
theorem eg_signN {w : Str} {n : Int} (hw : Ev ta σ B (.str w)) (hi : EvG tb σ B d fun v _ => ∃ k : Nat, v = .int (k : Int) ∧ (k : Int) < n) (hn : n ≤ (w.length : Int)) (hl : w.length ≤ 100000) : EvG (tOp rIxS ta tb) σ B d fun v _ => ∃ c, v = .str ⟨#[c]⟩ ∧ c ∈ TL.tl w :=
  eg_opV hw hi fun y B2 _ hy => by
    obtain ⟨k, rfl, hk⟩ := hy
    have hr : k < w.cps.toList.length := by
      have : w.length = w.cps.toList.length := by simp [Str.length]
      omega
    obtain ⟨c, hc⟩ : ∃ c, w.cps.toList[k]? = some c := ⟨_, List.getElem?_eq_getElem hr⟩
    exact ⟨_, rv_ixS hl (atI_nat hc), c, rfl, List.mem_of_getElem? hc⟩
/-- a drawn item of a list or a tuple that stands -/
theorem eg_itemL {a : Addr} {xs : List V} {n : Int} (hw : Ev ta σ B (.ref a)) (hx : SqL K B a xs) (hi : EvG tb σ B d fun v _ => ∃ k : Nat, v = .int (k : Int) ∧ (k : Int) < n) (hn : n ≤ (xs.length : Int)) : EvG (tOp (rIxL K) ta tb) σ B d fun v _ => v ∈ xs :=
  eg_opV hw hi fun y B2 e hy => by
    obtain ⟨k, rfl, hk⟩ := hy
    have hr : k < xs.length := by omega
    have hc : xs[k]? = some xs[k] := List.getElem?_eq_getElem hr
    exact ⟨_, rv_ixL (ex_l e hx) (atI_nat hc), List.mem_of_getElem? hc⟩
/-- a pure expression's value, nothing drawn -/
theorem eg_ev {v : V} (h : Ev te σ B v) : EvG te σ B d fun u _ => u = v := (eg_lift h).imp fun _ _ _ h => h.1
theorem EvG.sd {R' : V → Hp → Prop} (h : EvG te σ B d R) (hi : ∀ v B', R v B' → R' v B') : EvG te σ B d R' := h.imp fun v B' _ => hi v B'
end
end KD
-- KSq
/-! a list or a tuple, walked; dict comprehensions in the manner of Evl -/
namespace KSq
open PySem PySem.Spec PyProof.Rows L2 Evl KEv
def Sq (K : PySem.W.Frag) (H : Hp) (a : Addr) (xs : List V) : Prop := SqL K H a xs ∨ SqT K H a xs
theorem ex_sq {K : PySem.W.Frag} {H H' : Hp} {a : Addr} {xs : List V} (e : Ex H H') (h : Sq K H a xs) : Sq K H' a xs := h.elim (fun h => .inl (ex_l e h)) fun h => .inr (ex_t e h)
/-- over a list or a tuple -/
def iSeq (K : PySem.W.Frag) (tl : TE) : TI := fun σ H R => iList K tl σ H R ∨ iTup K tl σ H R
theorem pi_seq {X : Cx} {tg l : Expr} {tl : TE} (hl : PE X l tl) : PI X tg l (iSeq X.K tl) := ⟨fun pins s σ H R I h => h.elim ((pi_list hl).run pins s σ H R I) ((pi_tup hl).run pins s σ H R I)⟩
/-- any of the two walks, told by xs -/
def WalkS (K : PySem.W.Frag) (J : It) (a : Addr) (xs : List V) : Prop := Walk J xs.length (fun H => Sq K H a xs) (YAt xs)
/-- what is said of a walk over a list or a tuple that stands -/
theorem iseq_go {K : PySem.W.Frag} {tl : TE} {σ : L2.St} {H : Hp} {a : Addr} {xs : List V} {R : It → Hp → Prop} (h : Ev tl σ H (.ref a)) (hx : Sq K H a xs)
    (k : ∀ (J : It) (G : Hp → Prop) H1, Ex H H1 → G H1 → (∀ H2, Ex H H2 → G H2) → Walk J xs.length G (YAt xs) → R J H1) : iSeq K tl σ H R := by
  rcases hx with hx | hx
  · exact .inl (h H (Ex.refl H) _ fun H1 e => ⟨a, rfl, ⟨xs, ex_l e hx⟩, k _ (fun H => SqL K H a xs) H1 e (ex_l e hx) (fun H2 e2 => ex_l e2 hx) walk_list⟩)
  · exact .inr (h H (Ex.refl H) _ fun H1 e => ⟨a, rfl, ⟨xs, ex_t e hx⟩, k _ (fun H => SqT K H a xs) H1 e (ex_t e hx) (fun H2 e2 => ex_t e2 hx) walk_tup⟩)
section
variable {K : PySem.W.Frag} {σ : L2.St} {H : Hp} {a : Addr} {xs : List V} {tl te tk tv : TE} {t : TT} {D : Ends} {tu tz : TS} {j : Nat} {vs : List Nat}
/-- a for over it, its target a name; what stood stays -/
theorem s_forSq (h : Ev tl σ H (.ref a)) (hx : Sq K H a xs) (Pv : Nat → L2.St → Hp → Prop) (h0 : ∀ H1, Ex H H1 → Pv 0 σ H1) (hp : ∀ i σ' H', Pv i σ' H' → Ex H H')
    (hs : ∀ i x σ' H', xs[i]? = some x → Pv i σ' H' → tu { D with nx := Pv (i + 1), ct := Pv (i + 1), bk := D.nx } (σ'.set j (some x)) H') (hd : ∀ σ' H', Pv xs.length σ' H' → D.nx σ' H') : tFor (iSeq K tl) (gName j) tu D σ H :=
  iseq_go h hx fun J G H1 e1 g1 hg w => for_it w Pv (h0 H1 e1) (fun i σ' H' _ p => hg H' (hp i σ' H' p)) (fun i x σ' H2 H3 _ p y => by
    obtain ⟨rfl, hx⟩ := y
    exact hs i x σ' _ hx p) hd
theorem q_forSq (h : Ev tl σ H (.ref a)) (hx : Sq K H a xs) (Pv : Nat → L2.St → Hp → Prop) (h0 : ∀ H1, Ex H H1 → Pv 0 σ H1) (hp : ∀ i σ' H', Pv i σ' H' → Ex H H')
    (hs : ∀ i x σ' H', xs[i]? = some x → Pv i σ' H' → tu { D with nx := Pv (i + 1), ct := Pv (i + 1), bk := tz D } (σ'.set j (some x)) H') (hd : ∀ σ' H', Pv xs.length σ' H' → tz D σ' H') : tSeq (tFor (iSeq K tl) (gName j) tu) tz D σ H :=
  s_forSq (D := { D with nx := tz D }) h hx Pv h0 hp hs hd
/-- a list comprehension over it -/
theorem el_lcSq (f : Nat → Bool) (v : Nat → V) (h : Ev tl σ H (.ref a)) (hx : Sq K H a xs) (hz : xs.length ≤ 40000) (hw : ∀ x, wipe ((wipe σ vs).set j (some x)) vs = wipe σ vs)
    (ht : ∀ (i : Nat) (x : V) H1, Ex H H1 → xs[i]? = some x → EvT t ((wipe σ vs).set j (some x)) H1 (f i)) (he : ∀ (i : Nat) (x : V) H1, Ex H H1 → xs[i]? = some x → f i = true → Ev te ((wipe σ vs).set j (some x)) H1 (v i)) :
    EvL (tLc (iSeq K tl) (gName j) t te vs) σ H (given xs.length f v) := fun H0 e Q q =>
  iseq_go (h.mono e) (ex_sq e hx) fun J G H1 e1 g1 hg w Dl hD =>
    lc_it w (Cw H1 f v Dl) ⟨hD, Ex.new hD, upd_same⟩ (fun i H' _ p => hg H' (e1.trans p.2.1)) (fun i x H2 H3 hi p y => by
      obtain ⟨rfl, hx⟩ := y
      exact ⟨hw x, cw_turn p (by omega) (ht i x H1 (e.trans e1) hx) (fun hf => he i x H1 (e.trans e1) hx hf)⟩)
    (fun H' p => q Dl H' (fresh_back e1 p.1) (e1.trans p.2.1) p.2.2)
/-- all turns give -/
theorem given_all {n : Nat} {f : Nat → Bool} {v : Nat → V} (h : ∀ i, i < n → f i = true) : given n f v = (List.range n).map v := by
  unfold given
  rw [List.filter_eq_self.mpr fun i hi => h i (List.mem_range.mp hi)]
/-! dict comprehensions -/
/-- a new dict -/
def EvD (te : TE) (σ : L2.St) (H : Hp) (kvs : List (Key × V)) : Prop := ∀ H1, Ex H H1 → ∀ Q : VK, (∀ p H2, H1 p = none → Ex H1 H2 → H2 p = some (.dK kvs) → Q (.ref p) H2) → te σ H1 Q
theorem EvD.mono {H' : Hp} {kvs : List (Key × V)} (e : Ex H H') (h : EvD te σ H kvs) : EvD te σ H' kvs := fun H1 a Q q => h H1 (e.trans a) Q q
/-- a dict comprehension over a walk: Pv by the turn and the heap -/
theorem dc_it {J : It} {n : Nat} {G : Hp → Prop} {Y : Nat → Hp → V → Hp → Prop} (w : Walk J n G Y) {g : TG} {tt : TT} {tk tv : TE} {vs : List Nat} {σ : L2.St} {H1 : Hp} {D : Addr} {Qd : Hp → Prop} (Pv : Nat → Hp → Prop) (h0 : Pv 0 (upd H1 D (.dK []))) (hG : ∀ i H, i ≤ n → Pv i H → G H)
    (hs : ∀ i x H H', i < n → Pv i H → Y i H x H' → g x (wipe σ vs) H' fun σ2 H2 => wipe σ2 vs = wipe σ vs ∧ tt σ2 H2 fun b H3 =>
      if b = true then tk σ2 H3 fun y H4 => tv σ2 H4 fun z H5 => ∃ kvs k, y = kV k ∧ H5 D = some (.dK kvs) ∧ kvs.length < sizeLine ∧ Pv (i + 1) (upd H5 D (.dK (putK kvs k z))) else Pv (i + 1) H3) (hd : ∀ H, Pv n H → Qd H) :
    ∃ W : Nat → Nat → Hp → Prop, (∃ m, W 0 m (upd H1 D (.dK []))) ∧ ∀ i m H, W i m H →
      (J.stop i H ∧ Qd H) ∨ (J.go i H ∧ ∃ Nx : Hp → Prop, (∀ H', Nx H' → ∃ m', m' < m ∧ W (i + 1) m' H') ∧ ∀ x H', J.yld i H x H' → g x (wipe σ vs) H' fun σ2 H2 => wipe σ2 vs = wipe σ vs ∧ tt σ2 H2 fun b H3 =>
        if b = true then tk σ2 H3 fun y H4 => tv σ2 H4 fun z H5 => ∃ kvs k, y = kV k ∧ H5 D = some (.dK kvs) ∧ kvs.length < sizeLine ∧ Nx (upd H5 D (.dK (putK kvs k z))) else Nx H3) := by
  refine ⟨fun i m H => m = n - i ∧ i ≤ n ∧ Pv i H, ⟨n, by simp, Nat.zero_le _, h0⟩, ?_⟩
  rintro i m H ⟨rfl, hi, p⟩
  have q := hG i H hi p
  by_cases hlt : i < n
  · exact .inr ⟨w.goes i H hlt q, Pv (i + 1), fun H' p' => ⟨n - (i + 1), by omega, rfl, hlt, p'⟩, fun x H' y => hs i x H H' hlt p (w.yields i H x H' hlt q y)⟩
  · have e : i = n := by omega
    subst e
    exact .inl ⟨w.stops H q, hd H p⟩
/-- the dict of the first n turns -/
def madeK (n : Nat) (k : Nat → Key) (v : Nat → V) : List (Key × V) := (List.range n).foldl (fun acc i => putK acc (k i) (v i)) []
theorem madeK_succ {n : Nat} {k : Nat → Key} {v : Nat → V} : madeK (n + 1) k v = putK (madeK n k v) (k n) (v n) := by
  unfold madeK
  rw [List.range_succ, List.foldl_append]
  rfl
theorem madeK_len {n : Nat} {k : Nat → Key} {v : Nat → V} : (madeK n k v).length ≤ n := by
  induction n with
  | zero => exact Nat.le_refl _
  | succ n ih =>
    rw [madeK_succ]
    have := length_putK (madeK n k v) (k n) (v n)
    omega
def Dw (H : Hp) (k : Nat → Key) (v : Nat → V) (Dl : Addr) (i : Nat) (H' : Hp) : Prop := H Dl = none ∧ Ex H H' ∧ H' Dl = some (.dK (madeK i k v))
theorem dw_turn {H' : Hp} {k : Nat → Key} {v : Nat → V} {Dl : Addr} {i : Nat} {σ2 : L2.St} {tt : TT} (p : Dw H k v Dl i H') (hi : i < 50000) (ht : EvT tt σ2 H true) (hk : Ev tk σ2 H (kV (k i))) (he : Ev tv σ2 H (v i)) :
    tt σ2 H' fun b H3 => if b = true then tk σ2 H3 fun y H4 => tv σ2 H4 fun z H5 => ∃ kvs k0, y = kV k0 ∧ H5 Dl = some (.dK kvs) ∧ kvs.length < sizeLine ∧ Dw H k v Dl (i + 1) (upd H5 Dl (.dK (putK kvs k0 z))) else Dw H k v Dl (i + 1) H3 := by
  obtain ⟨p1, p2, p3⟩ := p
  refine ht H' p2 _ fun H3 e3 => ?_
  rw [if_pos rfl]
  refine hk H3 (p2.trans e3) _ fun H4 e4 => he H4 ((p2.trans e3).trans e4) _ fun H5 e5 => ⟨madeK i k v, k i, rfl, e5 Dl _ (e4 Dl _ (e3 Dl _ p3)), sz_lt (by have := madeK_len (n := i) (k := k) (v := v); omega), p1, Ex.mut (((p2.trans e3).trans e4).trans e5) p1, ?_⟩
  rw [madeK_succ]
  exact upd_same
theorem ed_dcSq {tt : TT} (k : Nat → Key) (v : Nat → V) (h : Ev tl σ H (.ref a)) (hx : Sq K H a xs) (hz : xs.length ≤ 40000) (hw : ∀ x, wipe ((wipe σ vs).set j (some x)) vs = wipe σ vs)
    (ht : ∀ (i : Nat) (x : V) H1, Ex H H1 → xs[i]? = some x → EvT tt ((wipe σ vs).set j (some x)) H1 true) (hk : ∀ (i : Nat) (x : V) H1, Ex H H1 → xs[i]? = some x → Ev tk ((wipe σ vs).set j (some x)) H1 (kV (k i)))
    (he : ∀ (i : Nat) (x : V) H1, Ex H H1 → xs[i]? = some x → Ev tv ((wipe σ vs).set j (some x)) H1 (v i)) : EvD (tDc (iSeq K tl) (gName j) tt tk tv vs) σ H (madeK xs.length k v) := fun H0 e Q q =>
  iseq_go (h.mono e) (ex_sq e hx) fun J G H1 e1 g1 hg w Dl hD =>
    dc_it w (Dw H1 k v Dl) ⟨hD, Ex.new hD, upd_same⟩ (fun i H' _ p => hg H' (e1.trans p.2.1)) (fun i x H2 H3 hi p y => by
      obtain ⟨rfl, hx⟩ := y
      exact ⟨hw x, dw_turn p (by omega) (ht i x H1 (e.trans e1) hx) (hk i x H1 (e.trans e1) hx) (he i x H1 (e.trans e1) hx)⟩)
    (fun H' p => q Dl H' (fresh_back e1 p.1) (e1.trans p.2.1) p.2.2)
theorem s_asgD {i : Nat} {kvs : List (Key × V)} (h : EvD te σ H kvs) (k : ∀ p H1, H p = none → Ex H H1 → H1 p = some (.dK kvs) → D.nx (σ.set i (some (.ref p))) H1) : tAsg te (gName i) D σ H := h H (Ex.refl H) _ fun p H1 hp e h1 => k p H1 hp e h1
theorem q_asgD {i : Nat} {kvs : List (Key × V)} (h : EvD te σ H kvs) (k : ∀ p H1, H p = none → Ex H H1 → H1 p = some (.dK kvs) → tz D (σ.set i (some (.ref p))) H1) : tSeq (tAsg te (gName i)) tz D σ H := s_asgD (D := { D with nx := tz D }) h k
theorem s_retD {kvs : List (Key × V)} (h : EvD te σ H kvs) (k : ∀ p H1, H p = none → Ex H H1 → H1 p = some (.dK kvs) → D.rt (.ref p) H1) : tRet te D σ H := h H (Ex.refl H) _ k
theorem ed_new : EvD tDNewK σ H [] := fun H1 _ Q q p hp => q p _ hp (Ex.new hp) upd_same
end
end KSq
-- KTupD
/-! tuple(d), d a dict: its keys -/
namespace KTupD
open PySem PySem.Spec PyProof.Rows L2 Evl
section
variable {pr : Program} {w : World} {A : Around} {E : Value → Shared → Prop} {s : Shared} {T : String} {r d : Addr} {n : Nat} {Pn : Nat → Value → Prop} {OK : Heap → Prop}
theorem tup_new {Q₁ : Value → Shared → Prop} (S : PySem.W.KdlSrc pr w T r d n Pn OK) (hh : A.handled = none) (hok : OK s.heap) (hn : n ≤ sizeLine)
    (k : ∀ (g : Heap) (tk : Nat) (acc : Array Value), (∀ b o, s.heap.get? b = some o → g.get? b = some o) → ItemsOf Pn acc n → Q₁ (.ref g.objs.size) { s with heap := g.push { cls := .type "tuple", data := .seq acc }, toks := tk }) :
    codeAny (model pr w) A (.call (.builtin "tuple.__new__") ⟨[.type "tuple", .ref r], []⟩) (wants Q₁ E) s := by
  refine codeAny_of_tree ?_
  show wpAny _ A.in1 (checkBuiltinCall "tuple.__new__" ⟨[.type "tuple", .ref r], []⟩ >>= fun _ => again (.builtin "tuple.__new__" ⟨[.type "tuple", .ref r], []⟩)) _ _ s
  refine wpAny_bind (wpAny_of_eq (F.newCall_tuple_1 _) (wpAny_pure ⟨plainId_quiet F.plain_tuple_new _, codeAny_builtin F.entry_tuple_new ?_⟩))
  rw [Around.under_plainId F.plain_tuple_new _]
  have z1 := sub_tuple_self
  have z2 := init_tuple_lookup
  have z3 := madeHere_tuple
  have z4 := S.type s hok
  have z5 : (Value.type T == Value.type "tuple") = false := S.notTuple
  wp_walk using wpAny_typeOf z4, PySem.W.kdu_collect (A := A.in1) S hh hok hn
  intro g tk acc hk hacc
  show wpAny _ A.in1 (Builtin.Tuple.tupleExact acc.toList.toArray >>= ret) _ _ _
  unfold Builtin.Tuple.tupleExact
  have ea : acc.toList.toArray = acc := Array.toArray_toList
  refine wpAny_bind (wpAny_newObj_type ?_ (show acc.toList.toArray.size ≤ sizeLine by rw [ea, hacc.1]; exact hn))
  refine wpAny_pure ?_
  rw [ea]
  exact k g tk acc hk hacc
theorem tup_call {Q : Value → Shared → Prop} (S : PySem.W.KdlSrc pr w T r d n Pn OK) (hh : A.handled = none) (hok : OK s.heap) (hn : n ≤ sizeLine)
    (k : ∀ (g : Heap) (tk : Nat) (acc : Array Value), (∀ b o, s.heap.get? b = some o → g.get? b = some o) → ItemsOf Pn acc n → Q (.ref g.objs.size) { s with heap := g.push { cls := .type "tuple", data := .seq acc }, toks := tk }) :
    wpAny (model pr w) A (call (.type "tuple") [.ref r]) Q E s := by
  refine callType_codes (Q₁ := fun u s1 => s1.TypeIs u "tuple" ∧ Q u s1) F.called_tuple (F.typeCall_tuple_1 _) F.entry_object_init
    (tup_new S hh hok hn fun g tk acc hk hacc => ⟨⟨_, Heap.get?_push_size _ rfl, rfl⟩, k g tk acc hk hacc⟩) fun u s1 h1 => ?_
  exact ⟨h1.1, F.args_object_init_2 u _, object_init_meets F.called_tuple.init.lookup F.called_tuple.made (by decide) pr w A.in1 _ s1 ⟨h1.1, rfl, h1.2⟩⟩
end
def rTupD : List V → Hp → VK → Prop := fun xs H Q => ∃ (a : Addr) (kvs : List (Key × V)), xs = [.ref a] ∧ Rd H a (.dK kvs) ∧ ∀ p, H p = none → Q (.ref p) (upd H p (.tup (kvs.map fun kv => kV kv.1)))
theorem call_tupD {X : Cx} (hcalm : X.calm = true) : CallR X (.type "tuple") rTupD := by
  intro pins s σ H xs us Q I r q
  obtain ⟨a, kvs, ex, hd, q⟩ := q
  subst ex
  obtain ⟨u, eu, rx⟩ := vals1 r
  subst eu
  cases rx
  obtain ⟨z, lo, vs, rel, dd⟩ := dk_rd I.hok hd
  obtain ⟨ep, hat⟩ := dd.dictAt
  have ek : (kvs.map fun kv => kV kv.1) = vs.map fun p => kV p.1 := by
    have e := congrArg (List.map kV) rel.keys
    rw [List.map_map, List.map_map] at e
    exact e
  have el : (vs.map fun p => kV p.1).length = vs.length := List.length_map _
  refine tup_call (PySem.W.kdl_dict (knd := mixKind X.prog X.w) (kvs := vs) (ep := ep) lo) (I.ok.hd hcalm) hat (by rw [← rel.length]; exact z) fun g tk acc hk hacc => ?_
  have hv : Vals (vs.map fun p => kV p.1) acc.toList := keys_at (by rw [Array.length_toList]; exact hacc.1) fun j v e => hacc.2 j v (by rw [← Array.getElem?_toList]; exact e)
  have I1 : Inv X pins σ H { s with heap := g, toks := tk } := I.kept (t' := tk) hk
  have I2 : Inv X pins σ (upd H g.objs.size (.tup (kvs.map fun kv => kV kv.1))) { s with heap := g.push { cls := .type "tuple", data := .seq acc }, toks := tk } :=
    I1.laid (t' := tk) (fun b o e => Heap.get?_push_of_some _ e) (Nat.le_refl _) (show ObjOk X.prog X.w _ _ _ (.tup (kvs.map fun kv => kV kv.1)) from ⟨by rw [List.length_map]; exact z, acc.toList, by rw [ek]; exact hv, by rw [Array.toArray_toList]; exact IsTup.new _ _⟩)
  exact ⟨.ref g.objs.size, _, I2, rfl, q _ (I1.hok.fresh (Nat.le_refl _))⟩
end KTupD
-- KEnumT
/-! enumerate(t), t a list or a tuple -/
namespace KEnumT
open PySem PySem.Spec PyProof.Rows L2 Evl KSq PySem.W
/-- enumerate(v): the tree of its making, v told by how its iterator begins -/
theorem enum_made {v : Value} {o : Obj} {Hh : Heap → Prop} (B : Begins v o Hh) :
    Meets (Builtin.«enumerate.__new__» ⟨[.type "enumerate", v], []⟩) (fun _ R s => Hh s.heap ∧
      R (.ok (.ret (.ref (s.heap.push o).objs.size))) { s with heap := (s.heap.push o).push { cls := .type "enumerate", data := .fields #[.none, .bool false, .ref s.heap.objs.size, rawInt 0, .none, .none] } }) :=
  .of_wp fun pr w A R s y => by
    obtain ⟨hp, gs, dr, tk, os⟩ := s
    obtain ⟨y1, y2⟩ := y
    have z1 := PySem.sub_enumerate
    have z2 : ∀ {A' : Around} {E : Value → Shared → Prop} {Q : Value → Shared → Prop}, Q (.ref hp.objs.size) ⟨hp.push o, gs, dr, tk, os⟩ → wpAny (model pr w) A' (pyIter v) Q E ⟨hp, gs, dr, tk, os⟩ :=
      fun z => B.iter pr w _ _ ⟨hp, gs, dr, tk, os⟩ _ y1 z
    wp_walk using z2
    refine wpAny_stack_any fun _ => wpAny_pure ?_
    split
    · rename_i c _ _ _ _ _
      cases (c == Value.type "enumerate") <;> (wp_walk using z2; exact ⟨_, rfl, y2⟩)
    · wp_walk using z2
      exact ⟨_, rfl, y2⟩
theorem enum_call {pr : Program} {w : World} {A : Around} {E : Value → Shared → Prop} {s : Shared} {v : Value} {o : Obj} {Hh : Heap → Prop} {Q : Value → Shared → Prop} (B : Begins v o Hh) (h1 : Hh s.heap)
    (k : ∀ g, IsEnum g (s.heap.objs.size + 1) s.heap.objs.size 0 .none → g.get? s.heap.objs.size = some o → (∀ b u, s.heap.get? b = some u → g.get? b = some u) → Q (.ref (s.heap.objs.size + 1)) { s with heap := g }) :
    wpAny (model pr w) A (call (.type "enumerate") [v]) Q E s := by
  refine callType_new F.called_enumerate (by decide) (F.typeCall_enumerate_1 _) (F.newCall_enumerate_1 _) (fun u => F.args_object_init_2 u _) F.entry_enumerate_new (enum_made B) ⟨h1, ?_⟩
  have hz : (s.heap.push o).objs.size = s.heap.objs.size + 1 := Heap.size_push ..
  show _ ∧ _
  rw [hz]
  have he : IsEnum ((s.heap.push o).push { cls := .type "enumerate", data := .fields #[.none, .bool false, .ref s.heap.objs.size, rawInt 0, .none, .none] }) (s.heap.objs.size + 1) s.heap.objs.size 0 .none := by
    have z := Heap.get?_push_size (s.heap.push o) (o := { cls := .type "enumerate", data := .fields #[.none, .bool false, .ref s.heap.objs.size, rawInt 0, .none, .none] }) rfl
    rwa [hz] at z
  exact ⟨⟨_, he, rfl⟩, k _ he (Heap.get?_push_of_some _ (Heap.get?_push_size _ B.free)) fun b u x => Heap.get?_push_of_some _ (Heap.get?_push_of_some _ x)⟩
/-- the tuple at a, each item in a new pair -/
def Iet (K : PySem.W.Frag) (a : Addr) : It :=
  ⟨fun i H => ∃ (xs : List V) (x : V), SqT K H a xs ∧ xs[i]? = some x, fun i H v H' => ∃ T x, v = .ref T ∧ H T = none ∧ H' = upd H T (.tup [.int (i : Nat), x]) ∧ ∀ xs, SqT K H a xs → xs[i]? = some x, fun i H => ∃ xs : List V, SqT K H a xs ∧ xs.length = i⟩
theorem turn_enumT {P : Program} {w : World} {K : PySem.W.Frag} {elts : List Expr} {kk : Nat} {tpos : Pos} (a e it : Addr) (hat : a ≠ it) (hae : a ≠ e) :
    Turn P w K (.Tuple elts kk tpos) (Iet K a) [e, it] e (fun i h => (∃ old, IsEnum h e it ((i : Nat) : Int) old) ∧ h.IsTupleIter it a i ∧ e ≠ it) where
  mem := by simp
  obj := fun i h st b hb => by
    obtain ⟨⟨old, he⟩, ⟨o, ho, hc, hd⟩, _⟩ := st
    rcases List.mem_cons.mp hb with z | z
    · rw [z]
      exact ⟨_, he, fun v q => nomatch q⟩
    · rw [List.mem_singleton.mp z]
      exact ⟨o, ho, fun v q => by rw [hd] at q; cases q⟩
  keep := fun i h h' st k => ⟨st.1.imp fun old he => k e (by simp) _ he, st.2.1.at fun o q => k it (by simp) o q, st.2.2⟩
  item := by
    intro X hP hw hK hc i pins s σ H E I hf st hg
    subst hP hw hK
    obtain ⟨⟨old, he⟩, hit, hne⟩ := st
    obtain ⟨xs, x, hq, hx⟩ := hg
    obtain ⟨its, rv, p, hz⟩ := I.tuple hq
    obtain ⟨u, hu, ru⟩ := rv.get hx
    have hel : e < s.heap.objs.size := Heap.lt_size he
    have hil : it < s.heap.objs.size := by
      obtain ⟨_, q, _⟩ := hit
      exact Heap.lt_size q
    have hlt : i < its.toArray.size := by
      have := (List.getElem?_eq_some_iff.mp hu).1
      simpa using this
    refine wpAny_pyNext_enum_itemD (Draws.tuple (prog := X.prog) (w := X.w) (A := X.A.in1) (I.ok.hd hc) it a hat its.toArray) he ⟨hit, p⟩ hlt hne (by simp [hne, Ne.symm hae]) fun y h' tk hy ho hst hT hsz hk => ?_
    have hyu : y = u := by
      have hy : its.toArray[i]? = some y := hy
      rw [List.getElem?_toArray, hu] at hy
      exact (Option.some.inj hy).symm
    subst hyu
    refine ⟨_, rfl, wpAny_letOwnedTupleGo_enum (s := { s with heap := h', toks := tk + 1 }) ho fun h2 he2 sb => ?_⟩
    have hT2 : h2.get? s.heap.objs.size = some { cls := .type "tuple", data := .seq #[.int i tk, y] } := (sb.2 _ (Nat.ne_of_gt hel)).trans hT
    have fresh : ObjOk X.prog X.w (upd H s.heap.objs.size (.tup [.int (i : Nat), x])) h2 s.heap.objs.size (.tup [.int (i : Nat), x]) :=
      ⟨by show 2 ≤ sizeLine; decide, [.int i tk, y], .cons ⟨_, rfl⟩ (.cons ru .nil), ⟨_, hT2, rfl, _, rfl⟩⟩
    have I1 : Inv X pins σ (upd H s.heap.objs.size (.tup [.int (i : Nat), x])) { s with heap := h2, toks := tk + 1 } :=
      I.turnedNew (ch := [e, it]) (fun b u hb q => by
        have b1 : b ≠ e := fun z => hb (by simp [z])
        have b2 : b ≠ it := fun z => hb (by simp [z])
        exact (sb.2 b b1).trans (hk b u b1 b2 q)) hf (Nat.le_refl _) fresh
    refine ⟨.ref s.heap.objs.size, _, I1, rfl, ⟨_, x, rfl, I.hok.fresh (Nat.le_refl _), rfl, fun ys hy => by rw [I.tuple_inj hy hq]; exact hx⟩, ⟨⟨y, ?_⟩, hst.1.at fun u q => (sb.2 it (Ne.symm hne)).trans q, hne⟩, fun b hb => ?_⟩
    · rw [show ((i + 1 : Nat) : Int) = (i : Int) + 1 by omega]
      exact he2
    · have hb2 : b < s.heap.objs.size := by
        rcases List.mem_cons.mp hb with z | z
        · rw [z]
          exact hel
        · rw [List.mem_singleton.mp z]
          exact hil
      rw [upd_ne (Nat.ne_of_lt hb2)]
      exact (hf b hb).1
  done := by
    intro X hP hw hK hc i pins s σ H E I hf st hg
    subst hP hw hK
    obtain ⟨⟨old, he⟩, hit, hne⟩ := st
    obtain ⟨xs, hq, hx⟩ := hg
    obtain ⟨its, rv, p, hz⟩ := I.tuple hq
    obtain ⟨f0, f1, f2, f3, f4, f5⟩ := hf it (by simp)
    have hl := rv.length
    have hn : its.toArray.size = i := by
      rw [List.size_toArray]
      omega
    subst hn
    exact wpAny_pyNext_enum_endD (Draws.tuple (prog := X.prog) (w := X.w) (A := X.A.in1) (I.ok.hd hc) it a hat its.toArray) he ⟨hit, p⟩ fun g eb => ⟨rfl, I.turned (t' := s.toks) (fun b u hb q => eb b u hb q) f0 f1 f3 f4 f5⟩
  self := fun A i s Q E st h => let ⟨⟨_, he⟩, _⟩ := st; wpAny_pyIter_enum he h
def iEnumT (K : PySem.W.Frag) (ta : TA) : TI := fun σ H R => ta σ H fun vs H1 => ∃ a xs, vs = [.ref a] ∧ SqT K H1 a xs ∧ R (Iet K a) H1
theorem pi_enumT {X : Cx} {e : Expr} {ta : TA} {p pos tpos : Pos} {elts : List Expr} {kk : Nat} (hg : Gl X "enumerate") (hm : X.mg "enumerate" = none) (ha : PA X [e] ta) (hs : starEach [e] X.env = [(false, eval e X.env)] := by rfl) :
    PI X (.Tuple elts kk tpos) (.Call (.Name "enumerate" p) [e] [] pos) (iEnumT X.K ta) := by
  refine ⟨fun pins s σ H R I h => Call_ (ld_blt I hg hm boot_enumerate (PyProof.Rows.callWith_type1 (thn (ha.run pos pins s σ H _ I h) fun us s1 ⟨vs, H1, I1, r1, q1⟩ => ?_) hs rfl))⟩
  obtain ⟨a, xs, ex, hq, q⟩ := q1
  subst ex
  obtain rfl := Vals.ref1 r1
  obtain ⟨its, rv, p2, hz⟩ := I1.tuple hq
  refine enum_call (begins_tuple a its.toArray) p2 fun g he hit hk => wpAny_pyIter_enum he ?_
  have I2 : Inv X pins σ H1 { s1 with heap := g } := I1.kept (t' := s1.toks) hk
  have hlt : a < s1.heap.objs.size := by
    obtain ⟨o, ho, _⟩ := p2
    exact Heap.lt_size ho
  refine ⟨s1.heap.objs.size + 1, [s1.heap.objs.size + 1, s1.heap.objs.size], _, _, H1, rfl, I2, turn_enumT a (s1.heap.objs.size + 1) s1.heap.objs.size (Nat.ne_of_lt hlt) (Nat.ne_of_lt (Nat.lt_succ_of_lt hlt)), ⟨⟨.none, he⟩, ⟨_, hit, rfl, rfl⟩, Nat.succ_ne_self _⟩, fun b hb => ?_, q⟩
  have hle : s1.heap.objs.size ≤ b := by
    rcases List.mem_cons.mp hb with z | z
    · rw [z]
      exact Nat.le_add_right _ _
    · rw [List.mem_singleton.mp z]
      exact Nat.le_refl _
  exact I1.fpOk hle (I1.hok.fresh hle)
theorem walk_enumT {K : PySem.W.Frag} {a : Addr} {xs : List V} : Walk (Iet K a) xs.length (fun H => SqT K H a xs) (YPair (fun i => some (.int (i : Nat))) (fun i => xs[i]?)) :=
  ⟨fun i _ hi q => ⟨xs, xs[i], q, by simp [hi]⟩, fun _ q => ⟨xs, q, rfl⟩, fun i H v H' _ q ⟨T, x, h1, h2, h3, h4⟩ => ⟨T, .int (i : Nat), x, h1, h2, h3, rfl, h4 xs q⟩⟩
/-- a list or a tuple -/
def iEnumS (K : PySem.W.Frag) (ta : TA) : TI := fun σ H R => iEnum K ta σ H R ∨ iEnumT K ta σ H R
theorem pi_enumS {X : Cx} {e : Expr} {ta : TA} {p pos tpos : Pos} {elts : List Expr} {kk : Nat} (hg : Gl X "enumerate") (hm : X.mg "enumerate" = none) (ha : PA X [e] ta) (hs : starEach [e] X.env = [(false, eval e X.env)] := by rfl) :
    PI X (.Tuple elts kk tpos) (.Call (.Name "enumerate" p) [e] [] pos) (iEnumS X.K ta) := ⟨fun pins s σ H R I h => h.elim ((pi_enum hg hm ha hs).run pins s σ H R I) ((pi_enumT hg hm ha hs).run pins s σ H R I)⟩
theorem ienum_go {K : PySem.W.Frag} {tl : TE} {σ : L2.St} {H : Hp} {a : Addr} {xs : List V} {R : It → Hp → Prop} (h : Ev tl σ H (.ref a)) (hx : Sq K H a xs)
    (k : ∀ (J : It) (G : Hp → Prop) H1, Ex H H1 → (∀ H2, Ex H H2 → G H2) → Walk J xs.length G (YPair (fun i => some (.int (i : Nat))) (fun i => xs[i]?)) → R J H1) : iEnumS K (tCons tl tNil) σ H R := by
  rcases hx with hx | hx
  · exact .inl (h H (Ex.refl H) _ fun H1 e => ⟨a, xs, rfl, ex_l e hx, k _ (fun H => SqL K H a xs) H1 e (fun H2 e2 => ex_l e2 hx) walk_enum⟩)
  · exact .inr (h H (Ex.refl H) _ fun H1 e => ⟨a, xs, rfl, ex_t e hx, k _ (fun H => SqT K H a xs) H1 e (fun H2 e2 => ex_t e2 hx) walk_enumT⟩)
end KEnumT
-- KDd
/-! what is unlike, in the order of first appearance; a dict used as a set -/
namespace KDd
open PySem PySem.Spec PyProof.Rows L2 Evl KSq
section
variable {α : Type} [DecidableEq α]
def addS (ws : List α) (x : α) : List α := if x ∈ ws then ws else ws ++ [x]
def dd (ss : List α) : List α := ss.foldl addS []
theorem addS_mem {ws : List α} {x y : α} : y ∈ addS ws x ↔ y ∈ ws ∨ y = x := by
  unfold addS
  split
  · rename_i h
    exact ⟨.inl, fun z => z.elim id fun z => z ▸ h⟩
  · simp
theorem addS_nodup {ws : List α} {x : α} (h : ws.Nodup) : (addS ws x).Nodup := by
  unfold addS
  split
  · exact h
  · rename_i hx
    rw [List.nodup_append]
    exact ⟨h, List.pairwise_singleton .., fun a ha b hb z => hx (by rw [List.mem_singleton.mp hb] at z; rwa [← z])⟩
theorem addS_len {ws : List α} {x : α} : (addS ws x).length ≤ ws.length + 1 := by
  unfold addS
  split
  · omega
  · rw [List.length_append]
    exact Nat.le_refl _
theorem fold_mem {ss : List α} : ∀ {ws : List α} {y : α}, y ∈ ss.foldl addS ws ↔ y ∈ ws ∨ y ∈ ss := by
  induction ss with
  | nil => simp
  | cons x r ih =>
    intro ws y
    rw [List.foldl_cons, ih, addS_mem, List.mem_cons, or_assoc]
theorem fold_nodup {ss : List α} : ∀ {ws : List α}, ws.Nodup → (ss.foldl addS ws).Nodup := by
  induction ss with
  | nil => exact fun h => h
  | cons x r ih => exact fun h => ih (addS_nodup h)
theorem fold_len {ss : List α} : ∀ {ws : List α}, (ss.foldl addS ws).length ≤ ws.length + ss.length := by
  induction ss with
  | nil => exact Nat.le_refl _
  | cons x r ih =>
    intro ws
    have h1 := ih (ws := addS ws x)
    have h2 := addS_len (ws := ws) (x := x)
    rw [List.foldl_cons, List.length_cons]
    omega
theorem dd_mem {ss : List α} {y : α} : y ∈ dd ss ↔ y ∈ ss := by
  unfold dd
  rw [fold_mem]
  simp
theorem dd_nodup {ss : List α} : (dd ss).Nodup := fold_nodup List.nodup_nil
theorem dd_len {ss : List α} : (dd ss).length ≤ ss.length := by
  have := fold_len (ss := ss) (ws := [])
  simpa [dd] using this
theorem fold_in {ss : List α} : ∀ {ws : List α}, (∀ y ∈ ss, y ∈ ws) → ss.foldl addS ws = ws := by
  induction ss with
  | nil => exact fun _ => rfl
  | cons x r ih =>
    intro ws h
    have e : addS ws x = ws := if_pos (h x List.mem_cons_self)
    rw [List.foldl_cons, e]
    exact ih fun y hy => h y (List.mem_cons_of_mem _ hy)
theorem dd_snoc {ss : List α} {x : α} : dd (ss ++ [x]) = addS (dd ss) x := by
  unfold dd
  rw [List.foldl_append]
  rfl
theorem dd_take {ss : List α} {i : Nat} {x : α} (h : ss[i]? = some x) : dd (ss.take (i + 1)) = addS (dd (ss.take i)) x := by
  rw [List.take_add_one, h, ← dd_snoc]
  rfl
theorem dd_self : ∀ {ss : List α}, ss.Nodup → dd ss = ss := by
  intro ss h
  have z : ∀ (r ws : List α), (ws ++ r).Nodup → r.foldl addS ws = ws ++ r := by
    intro r
    induction r with
    | nil => intro ws _; simp
    | cons x r ih =>
      intro ws hn
      have hx : x ∉ ws := fun z => by
        rw [List.nodup_append] at hn
        exact hn.2.2 x z x List.mem_cons_self rfl
      have e : addS ws x = ws ++ [x] := if_neg hx
      rw [List.foldl_cons, e, ih (ws ++ [x]) (by simpa using hn)]
      simp
  simpa [dd] using z ss [] (by simpa using h)
theorem dd_more {us ss : List α} (h : us.Nodup) (hs : ∀ y ∈ ss, y ∈ us) : dd (us ++ ss) = us := by
  have e := dd_self h
  unfold dd at e ⊢
  rw [List.foldl_append, e]
  exact fold_in hs
end
/-- a set kept as a dict -/
def tkv (ws : List Str) : List (Key × V) := ws.map fun x => (Sum.inr x, V.bl true)
theorem tkv_len (ws : List Str) : (tkv ws).length = ws.length := List.length_map _
theorem tkv_keys (ws : List Str) : ((tkv ws).map fun kv => kV kv.1) = ws.map V.str := by
  unfold tkv
  rw [List.map_map]
  rfl
theorem valV_tkv (ws : List Str) (x : Str) : valV (tkv ws) (Sum.inr x) = if x ∈ ws then some (.bl true) else none := by
  induction ws with
  | nil => rfl
  | cons y r ih =>
    by_cases e : y = x
    · rw [if_pos (e ▸ List.mem_cons_self)]
      exact valV_pos (p := (Sum.inr y, V.bl true)) (show (Sum.inr y : Key) = Sum.inr x by rw [e])
    · have h := valV_neg (p := ((Sum.inr y : Key), V.bl true)) (r := tkv r) (k := Sum.inr x) (fun z => e (Sum.inr.inj z))
      show valV ((Sum.inr y, V.bl true) :: tkv r) (Sum.inr x) = _
      rw [h, ih]
      by_cases hx : x ∈ r
      · rw [if_pos hx, if_pos (List.mem_cons_of_mem _ hx)]
      · rw [if_neg hx, if_neg fun z => (List.mem_cons.mp z).elim (fun z => e z.symm) hx]
theorem put_tkv (ws : List Str) (x : Str) : putK (tkv ws) (Sum.inr x) (.bl true) = tkv (addS ws x) := by
  by_cases h : x ∈ ws
  · have ha : ((tkv ws).any fun kv => decide (kv.1 = (Sum.inr x : Key))) = true := by
      rw [valV_any, valV_tkv, if_pos h]
      rfl
    unfold putK addS
    rw [if_pos ha, if_pos h]
    unfold tkv
    rw [List.map_map]
    refine List.map_congr_left fun y _ => ?_
    show (if (Sum.inr y : Key) = Sum.inr x then (Sum.inr y, V.bl true) else (Sum.inr y, V.bl true)) = _
    split <;> rfl
  · rw [putK_new _ (by rw [valV_tkv, if_neg h])]
    unfold addS
    rw [if_neg h]
    unfold tkv
    rw [List.map_append]
    rfl
theorem made_tkv {ss : List Str} : ∀ n, n ≤ ss.length → madeK n (fun i => Sum.inr (ss.getD i Str.empty)) (fun _ => V.bl true) = tkv (dd (ss.take n)) := by
  intro n
  induction n with
  | zero => exact fun _ => rfl
  | succ n ih =>
    intro h
    have hx : ss[n]? = some (ss.getD n Str.empty) := by
      rw [List.getD_eq_getElem?_getD, List.getElem?_eq_getElem (by omega)]
      rfl
    rw [madeK_succ, ih (by omega), put_tkv, dd_take hx]
/-- x in a list of texts -/
theorem inV_txt {x : Str} {ws : List Str} : inV (.str x) (ws.map V.str) = decide (x ∈ ws) := by
  unfold inV
  rw [List.any_map]
  induction ws with
  | nil => rfl
  | cons y r ih =>
    rw [List.any_cons, ih]
    by_cases e : y = x
    · subst e
      have : eqV (.str y) (.str y) = true := by simp [eqV]
      simp [this]
    · have e2 : ¬ x = y := fun z => e z.symm
      have : eqV (.str y) (.str x) = false := by simp [eqV, e]
      simp [this, e2]
theorem flat_txt (ws : List Str) : (ws.map V.str).all flatV = true := by
  rw [List.all_map, List.all_eq_true]
  intro x _
  rfl
end KDd
-- KDc
/-! y = {k: v for x in xs} -/
namespace KDc
open PySem PySem.Spec PyProof.Rows L2
section
variable {X : Cx}
theorem ps_setDc {i : Nat} {y : Str} {py : Pos} {kx vx tg iter : Expr} {ifs : List Expr} {scope : Scope} {own : List (Str × Nat)} {pos spos : Pos} {wi : TI} {g : TG} {tt : TT} {tk tv : TE} (hc : X.calm = true) (hN : X.N.Nodup) (hy : X.N[i]? = some y) (hyl : X.env.scope.names.lookup y = some .local)
    (hsw : swapsWith (.DictComp kx vx [⟨tg, iter, ifs, 0⟩] scope pos) (some (.Name y py)) spos.line X.env = pure true) (hi : PI X tg iter wi) (ok : BlkOk X.N X.env.scope scope own)
    (hg : ∀ (s : Shared) (H : Hp) (L : Addr) (cl : List (Str × Addr)) (fp : List Addr), PG (X.blk s H scope (compEnvC scope cl L X.env) fp) tg g) (ht : ∀ (s : Shared) (H : Hp) (L : Addr) (cl : List (Str × Addr)) (fp : List Addr), PTs (X.blk s H scope (compEnvC scope cl L X.env) fp) ifs tt)
    (hk : ∀ (s : Shared) (H : Hp) (L : Addr) (cl : List (Str × Addr)) (fp : List Addr), PE (X.blk s H scope (compEnvC scope cl L X.env) fp) kx tk)
    (he : ∀ (s : Shared) (H : Hp) (L : Addr) (cl : List (Str × Addr)) (fp : List Addr), PE (X.blk s H scope (compEnvC scope cl L X.env) fp) vx tv) (hs : ∀ x, foldedSetIterable iter X.env x = pure x := by intro _; rfl) :
    PS X (.Assign [.Name y py] (.DictComp kx vx [⟨tg, iter, ifs, 0⟩] scope pos) spos) (tAsg (tDc wi g tt tk tv (own.map (·.2))) (gName i)) := by
  refine ⟨fun pins s σ H D I h => ?_⟩
  rw [exec_Assign_Name_used _ _ _ _ hsw]
  refine wpAny_bind (wpAny_standAt (wpAny_bind ?_))
  show wpAny _ X.A (comprehension (.DictComp kx vx [⟨tg, iter, ifs, 0⟩] scope pos) scope X.env (firstIterPos [⟨tg, iter, ifs, 0⟩] pos) newDict false (eval iter X.env) (some (assign (.Name y py) X.env)) >>= fun _ => _) _ _ s
  have h1 : tDc wi g tt tk tv (own.map (·.2)) σ H (fun x H1 => gName i x σ H1 D.nx) := h
  refine wpAny_bind (thn (dc_core (Qf := fun _ s' => SP X pins D .next s') hc hN I hi ok hg ht hk he hs h1 fun L c s' m H' I' q hn f => ?_) fun _ s' hq => wpAny_pure (wpAny_pure hq))
  show wpAny _ _ (assign (.Name y py) X.env (.ref L)) _ _ _
  refine wpAny_assign_Name (store_ok2 (v := V.ref L) I' hN hy (.inl hyl) rfl (fun s2 I2 ⟨a, sb, ha⟩ => ?_) (.inr hyl))
  obtain ⟨f0, f1, f2, f3, f4, f5⟩ := f
  have hne : c ≠ a := ha.elim (fun z => by rw [z]; exact f1) fun z e => f4 y a z e.symm
  exact ⟨m, hn.sameBut sb hne, fun h3 sb3 => ⟨_, H', I2.turned (t' := s2.toks) (fun b o hb e => (sb3.2 b hb).trans e) f0 f1 f3 f4 f5, q⟩⟩
theorem sw_dict {kx vx : Expr} {gs : List Comprehension} {scope : Scope} {pos py : Pos} {y : Str} {l : Nat} {env : Env} (hk : env.scope.kind = .function) (hy : env.scope.names.lookup y = some .local) (hl : (py.line == pos.line) = true)
    (ha : (scope.names.any fun (n, k) => n == y && (k == .local || k == .cell)) = false) : swapsWith (.DictComp kx vx gs scope pos) (some (.Name y py)) l env = pure true := by
  have z1 : env.kindOf y = some .local := hy
  have z2 : env.blockKind = .function := by
    unfold Env.blockKind
    rw [hk]
    rfl
  unfold swapsWith
  simp only [z1, z2, ha, Expr.pos, hl]
  rfl
end
end KDc
-- KTxt
/-! split, join, dict.get, max with default in the manner of Evl -/
namespace KTxt
open PySem PySem.Spec PyProof.Rows L2 Evl KSq TL
def rSplitS : V → List V → Hp → VK → Prop := fun x xs H Q => ∃ a b, x = .str a ∧ xs = [.str b] ∧ (b.length == 0) = false ∧ a.length + 2 ≤ sizeLine ∧ rNewStrs (Txt.split a b) H Q
def rJoinS (K : PySem.W.Frag) : V → List V → Hp → VK → Prop := fun x xs H Q => ∃ a p, ∃ ys : List Str, x = .str a ∧ xs = [.ref p] ∧ (SqL K H p (ys.map V.str) ∨ SqT K H p (ys.map V.str)) ∧ (ys.map (·.length)).sum + ys.length * a.length ≤ 16777216 ∧ Q (.str (Txt.join a ys)) H
section
variable {X : Cx} {o e : Expr} {to te : TE} {apos pos : Pos}
theorem pe_splitS (ho : PE X o to) (he : PE X e te) (hs : starEach [e] X.env = [(false, eval e X.env)] := by rfl) (hbase : attributeBase o "split" X.env (eval o X.env) = eval o X.env := by rfl) (hline : (apos.endLine == pos.line) = true := by rfl) :
    PE X (.Call (.Attribute o "split" apos) [e] [] pos) (tM1 rSplitS to te) := pe_split ho he hs hbase hline
theorem pe_joinS (ho : PE X o to) (he : PE X e te) (hs : starEach [e] X.env = [(false, eval e X.env)] := by rfl) (hbase : attributeBase o "join" X.env (eval o X.env) = eval o X.env := by rfl) (hline : (apos.endLine == pos.line) = true := by rfl) :
    PE X (.Call (.Attribute o "join" apos) [e] [] pos) (tM1 (rJoinS X.K) to te) := pe_join ho he hs hbase hline
end
section
variable {K : PySem.W.Frag} {σ : L2.St} {H : Hp} {to te td ty tx : TE}
theorem el_split {a b : Str} (ho : Ev to σ H (.str a)) (he : Ev te σ H (.str b)) (hb : (b.length == 0) = false) (hl : a.length ≤ 1000000) : EvL (tM1 rSplitS to te) σ H ((Txt.split a b).map V.str) := fun H1 e Q q =>
  ho H1 e _ fun H2 e2 => ⟨⟨a, rfl⟩, he H2 (e.trans e2) _ fun H3 e3 => ⟨a, b, rfl, rfl, hb, Nat.le_trans (show a.length + 2 ≤ 1000002 by omega) (by decide), fun p hp => q p _ (fresh_back (e2.trans e3) hp) ((e2.trans e3).trans (Ex.new hp)) upd_same⟩⟩
/-- a new list, joined -/
theorem ev_joinL {a : Str} {ys : List Str} (ho : Ev to σ H (.str a)) (he : EvL te σ H (ys.map V.str)) (hl : (ys.map (·.length)).sum + ys.length * a.length ≤ 16777216) : Ev (tM1 (rJoinS K) to te) σ H (.str (Txt.join a ys)) := fun H1 e Q q =>
  ho H1 e _ fun H2 e2 => ⟨⟨a, rfl⟩, he H2 (e.trans e2) _ fun p H3 hp e3 h3 => ⟨a, p, ys, rfl, rfl, .inl (sq_of h3), hl, q H3 (e2.trans e3)⟩⟩
/-- a list that stands, joined -/
theorem ev_join {a : Str} {p : Addr} {ys : List Str} (ho : Ev to σ H (.str a)) (he : Ev te σ H (.ref p)) (hp : SqL K H p (ys.map V.str)) (hl : (ys.map (·.length)).sum + ys.length * a.length ≤ 16777216) : Ev (tM1 (rJoinS K) to te) σ H (.str (Txt.join a ys)) := fun H1 e Q q =>
  ho H1 e _ fun H2 e2 => ⟨⟨a, rfl⟩, he H2 (e.trans e2) _ fun H3 e3 => ⟨a, p, ys, rfl, rfl, .inl (ex_l ((e.trans e2).trans e3) hp), hl, q H3 (e2.trans e3)⟩⟩
/-- d.get(k, x) -/
theorem ev_get2 {a : Addr} {kvs : List (Key × V)} {k : Key} {z : V} (hd : Ev td σ H (.ref a)) (hk : Ev ty σ H (kV k)) (hx : Ev tx σ H z) (h : H a = some (.dK kvs)) : Ev (tDGet2 td ty tx) σ H ((valV kvs k).getD z) := fun H1 e Q q =>
  hd H1 e _ fun H2 e2 => ⟨a, rfl, .inl ⟨kvs, .inl (e2 _ _ (e _ _ h))⟩, hk H2 (e.trans e2) _ fun H3 e3 => hx H3 ((e.trans e2).trans e3) _ fun H4 e4 => ⟨_, DGet.k (e4 _ _ (e3 _ _ (e2 _ _ (e _ _ h)))), q H4 ((e2.trans e3).trans e4)⟩⟩
/-- d[k] -/
theorem ev_dget {a : Addr} {kvs : List (Key × V)} {k : Key} {v : V} (hd : Ev td σ H (.ref a)) (hk : Ev ty σ H (kV k)) (h : H a = some (.dK kvs)) (hv : valV kvs k = some v) : Ev (tDGet td ty) σ H v := fun H1 e Q q =>
  hd H1 e _ fun H2 e2 => hk H2 (e.trans e2) _ fun H3 e3 => ⟨a, v, rfl, by rw [← hv]; exact DGet.k (e3 _ _ (e2 _ _ (e _ _ h))), q H3 (e2.trans e3)⟩
/-- d[k] = v -/
theorem s_dput {D : Ends} {a : Addr} {kvs : List (Key × V)} {k : Key} {v : V} (hv : Ev tx σ H v) (hd : Ev td σ H (.ref a)) (hk : Ev ty σ H (kV k)) (h : H a = some (.dK kvs)) (hl : kvs.length ≤ 100000) (kk : ∀ H1, Ex H H1 → D.nx σ (upd H1 a (.dK (putK kvs k v)))) : sDPut td ty tx D σ H :=
  hv H (Ex.refl H) _ fun H1 e1 => hd H1 e1 _ fun H2 e2 => hk H2 (e1.trans e2) _ fun H3 e3 => ⟨a, _, rfl, DPut.k (e3 _ _ (e2 _ _ (e1 _ _ h))) (Nat.lt_of_le_of_lt hl (by decide)), kk H3 ((e1.trans e2).trans e3)⟩
theorem q_dput {D : Ends} {tz : TS} {a : Addr} {kvs : List (Key × V)} {k : Key} {v : V} (hv : Ev tx σ H v) (hd : Ev td σ H (.ref a)) (hk : Ev ty σ H (kV k)) (h : H a = some (.dK kvs)) (hl : kvs.length ≤ 100000) (kk : ∀ H1, Ex H H1 → tz D σ (upd H1 a (.dK (putK kvs k v)))) : tSeq (sDPut td ty tx) tz D σ H :=
  s_dput (D := { D with nx := tz D }) hv hd hk h hl kk
/-- words -/
theorem split_back {ws : List Str} (hne : ws ≠ []) (h : ∀ x ∈ ws, 32 ∉ tl x) : Txt.split (Txt.join (" " : Str) ws) (" " : Str) = ws := split_join (s := 32) (S := []) rfl (by decide +kernel) hne h
theorem join_len (y : Str) : ∀ parts : List Str, (tl (Str.join y parts)).length ≤ (parts.map (·.length)).sum + parts.length * y.length
  | [] => Nat.zero_le _
  | [x] => by
    show (tl x).length ≤ _
    rw [← len_tl]
    simp only [List.map_cons, List.map_nil, List.sum_cons, List.sum_nil]
    omega
  | x :: z :: r => by
    show (tl (x ++ y ++ Str.join y (z :: r))).length ≤ _
    have ih := join_len y (z :: r)
    rw [tl_append, tl_append, List.length_append, List.length_append, ← len_tl x, ← len_tl y]
    simp only [List.map_cons, List.sum_cons, List.length_cons] at ih ⊢
    rw [Nat.add_mul] at ih ⊢
    rw [Nat.add_mul]
    omega
theorem txt_len (ws : List Str) : (Txt.join (" " : Str) ws).length ≤ (ws.map (·.length)).sum + ws.length := by
  rw [join_eq, len_tl]
  have := join_len (" " : Str) ws
  have e : (" " : Str).length = 1 := rfl
  rw [e] at this
  omega
theorem sum_le {ws : List Str} {m : Nat} (h : ∀ x ∈ ws, x.length ≤ m) : (ws.map (·.length)).sum ≤ ws.length * m := by
  induction ws with
  | nil => simp
  | cons x r ih =>
    have h1 := ih fun y hy => h y (List.mem_cons_of_mem _ hy)
    have h2 := h x List.mem_cons_self
    rw [List.map_cons, List.sum_cons, List.length_cons, Nat.add_mul]
    omega
end
end KTxt
-- KSq2
/-! loops over what a smaller heap B knows, while other objects change -/
namespace KSq
open PySem PySem.Spec PyProof.Rows L2 Evl KEv
section
variable {K : PySem.W.Frag} {σ : L2.St} {B H : Hp} {a : Addr} {xs : List V} {tl te tk tv : TE} {t : TT} {D : Ends} {tu tz : TS} {j : Nat} {vs : List Nat}
theorem iseq_goB {R : It → Hp → Prop} (eB : Ex B H) (h : Ev tl σ B (.ref a)) (hx : Sq K B a xs)
    (k : ∀ (J : It) (G : Hp → Prop) H1, Ex H H1 → (∀ H2, Ex B H2 → G H2) → Walk J xs.length G (YAt xs) → R J H1) : iSeq K tl σ H R := by
  rcases hx with hx | hx
  · exact .inl (h H eB _ fun H1 e => ⟨a, rfl, ⟨xs, ex_l (eB.trans e) hx⟩, k _ (fun H => SqL K H a xs) H1 e (fun H2 e2 => ex_l e2 hx) walk_list⟩)
  · exact .inr (h H eB _ fun H1 e => ⟨a, rfl, ⟨xs, ex_t (eB.trans e) hx⟩, k _ (fun H => SqT K H a xs) H1 e (fun H2 e2 => ex_t e2 hx) walk_tup⟩)
theorem s_forSqB (eB : Ex B H) (h : Ev tl σ B (.ref a)) (hx : Sq K B a xs) (Pv : Nat → L2.St → Hp → Prop) (h0 : ∀ H1, Ex H H1 → Pv 0 σ H1) (hp : ∀ i σ' H', Pv i σ' H' → Ex B H')
    (hs : ∀ i x σ' H', xs[i]? = some x → Pv i σ' H' → tu { D with nx := Pv (i + 1), ct := Pv (i + 1), bk := D.nx } (σ'.set j (some x)) H') (hd : ∀ σ' H', Pv xs.length σ' H' → D.nx σ' H') : tFor (iSeq K tl) (gName j) tu D σ H :=
  iseq_goB eB h hx fun J G H1 e1 hg w => for_it w Pv (h0 H1 e1) (fun i σ' H' _ p => hg H' (hp i σ' H' p)) (fun i x σ' H2 H3 _ p y => by
    obtain ⟨rfl, hx⟩ := y
    exact hs i x σ' _ hx p) hd
theorem q_forSqB (eB : Ex B H) (h : Ev tl σ B (.ref a)) (hx : Sq K B a xs) (Pv : Nat → L2.St → Hp → Prop) (h0 : ∀ H1, Ex H H1 → Pv 0 σ H1) (hp : ∀ i σ' H', Pv i σ' H' → Ex B H')
    (hs : ∀ i x σ' H', xs[i]? = some x → Pv i σ' H' → tu { D with nx := Pv (i + 1), ct := Pv (i + 1), bk := tz D } (σ'.set j (some x)) H') (hd : ∀ σ' H', Pv xs.length σ' H' → tz D σ' H') : tSeq (tFor (iSeq K tl) (gName j) tu) tz D σ H :=
  s_forSqB (D := { D with nx := tz D }) eB h hx Pv h0 hp hs hd
/-- a list only -/
theorem s_forLB (eB : Ex B H) (h : Ev tl σ B (.ref a)) (hx : SqL K B a xs) (Pv : Nat → L2.St → Hp → Prop) (h0 : ∀ H1, Ex H H1 → Pv 0 σ H1) (hp : ∀ i σ' H', Pv i σ' H' → Ex B H')
    (hs : ∀ i x σ' H', xs[i]? = some x → Pv i σ' H' → tu { D with nx := Pv (i + 1), ct := Pv (i + 1), bk := D.nx } (σ'.set j (some x)) H') (hd : ∀ σ' H', Pv xs.length σ' H' → D.nx σ' H') : tFor (iList K tl) (gName j) tu D σ H :=
  h H eB _ fun H1 e => ⟨a, rfl, ⟨xs, ex_l (eB.trans e) hx⟩, for_it walk_list Pv (h0 H1 e) (fun i σ' H' _ p => ex_l (hp i σ' H' p) hx) (fun i x σ' H2 H3 _ p y => by
    obtain ⟨rfl, hx⟩ := y
    exact hs i x σ' _ hx p) hd⟩
theorem q_forLB (eB : Ex B H) (h : Ev tl σ B (.ref a)) (hx : SqL K B a xs) (Pv : Nat → L2.St → Hp → Prop) (h0 : ∀ H1, Ex H H1 → Pv 0 σ H1) (hp : ∀ i σ' H', Pv i σ' H' → Ex B H')
    (hs : ∀ i x σ' H', xs[i]? = some x → Pv i σ' H' → tu { D with nx := Pv (i + 1), ct := Pv (i + 1), bk := tz D } (σ'.set j (some x)) H') (hd : ∀ σ' H', Pv xs.length σ' H' → tz D σ' H') : tSeq (tFor (iList K tl) (gName j) tu) tz D σ H :=
  s_forLB (D := { D with nx := tz D }) eB h hx Pv h0 hp hs hd
/-- over a new list: it stays as long as B and it are known -/
theorem s_forNB (eB : Ex B H) (h : EvL tl σ B xs) (Pv : Nat → L2.St → Hp → Prop) (h0 : ∀ H1, Ex H H1 → Pv 0 σ H1) (q : Addr → Prop) (hq : ∀ p, H p = none → q p)
    (hp : ∀ i σ' H', Pv i σ' H' → True)
    (hs : ∀ (p : Addr) i x σ' H', q p → xs[i]? = some x → Pv i σ' H' → H' p = some (.lst xs) → tu { D with nx := fun σ2 H2 => Pv (i + 1) σ2 H2 ∧ H2 p = some (.lst xs), ct := fun σ2 H2 => Pv (i + 1) σ2 H2 ∧ H2 p = some (.lst xs), bk := D.nx } (σ'.set j (some x)) H') (hd : ∀ σ' H', Pv xs.length σ' H' → D.nx σ' H') : tFor (iList K tl) (gName j) tu D σ H :=
  h H eB _ fun p H1 hp1 e h1 => ⟨p, rfl, ⟨xs, sq_of h1⟩, for_it walk_list (fun i σ' H' => Pv i σ' H' ∧ H' p = some (.lst xs)) ⟨h0 H1 e, h1⟩ (fun i σ' H' _ z => sq_of z.2) (fun i x σ' H2 H3 _ z y => by
    obtain ⟨rfl, hx⟩ := y
    exact hs p i x σ' _ (hq p hp1) hx z.1 z.2) fun σ' H' z => hd σ' H' z.1⟩
end
end KSq
-- KDraw3
/-! lists that are drawn -/
namespace KD
open PySem PySem.Spec PyProof.Rows L2 Evl KEv KSq
section
variable {K : PySem.W.Frag} {σ : L2.St} {B H : Hp} {d : Addr} {ta tr : TA} {tb te td tc : TE} {x v : V} {R Rb : V → Hp → Prop} {r : R2} {E : XK} {j : Nat} {vs : List Nat}
theorem ega_consV {Rr : List V → Hp → Prop} (h : Ev te σ B v) (hr : EvGA tr σ B d Rr) : EvGA (tCons te tr) σ B d fun us B' => ∃ r, us = v :: r ∧ Rr r B' :=
  ega_cons (Rr := fun _ => Rr) (eg_lift h) (fun u B1 _ hu => by rw [hu.2]; exact hr) fun u us B1 B2 _ hu _ hr => ⟨us, by rw [hu.1], hr⟩
theorem ega_one (h : EvG te σ B d R) : EvGA (tCons te tNil) σ B d fun us B' => ∃ v, us = [v] ∧ R v B' :=
  ega_cons (Rr := fun v us B' => us = [] ∧ R v B') h (fun u B1 e1 hu => fun H s Q q => q [] B1 H (Ex.refl _) s ⟨rfl, hu⟩) fun u us B1 B2 _ hu _ hr => ⟨u, by rw [hr.1], hr.2⟩
theorem ega_sd {Rs Rs' : List V → Hp → Prop} (h : EvGA ta σ B d Rs) (hi : ∀ us B', Ex B B' → Rs us B' → Rs' us B') : EvGA ta σ B d Rs' := fun H s Q q => h H s Q fun us B' H' e s' r => q us B' H' e s' (hi us B' e r)
/-- [a, b, ..] -/
theorem eg_lst {Rs : List V → Hp → Prop} (h : EvGA ta σ B d Rs) (hl : ∀ us B', Rs us B' → us.length ≤ 100000) : EvG (tLst ta) σ B d fun u B' => ∃ p us B1, u = .ref p ∧ B p = none ∧ B1 p = none ∧ Ex B B1 ∧ B' = upd B1 p (.lst us) ∧ Rs us B1 := fun H s Q q =>
  h H s _ fun us B1 H1 e1 s1 r1 => ⟨sz_of (hl us B1 r1), fun p hp => by
    have nb : B1 p = none := fresh_back s1.ex hp
    have nd : p ≠ d := s1.ne hp
    have s2 : Sd (upd B1 p (.lst us)) d (upd H1 p (.lst us)) := (s1.mono (Ex.new hp)).known nd upd_same
    exact q (.ref p) (upd B1 p (.lst us)) _ (e1.trans (Ex.new nb)) s2 ⟨p, us, B1, rfl, fresh_back e1 nb, nb, e1, rfl, r1⟩⟩
/-- f(draws, e) -/
theorem eg_call1 {A : List V → Hp → Prop} {Rc : List V → V → Hp → Prop} {R1 : V → Hp → Prop} (hd : Ev td σ B (.ref d)) (h : EvG te σ B d R1) (ha : ∀ v B1 H1, Ex B B1 → R1 v B1 → Ex B1 H1 → A [v] H1) (hr : ∀ v u B1 B2, Ex B B1 → R1 v B1 → Ex B1 B2 → Rc [v] u B2 → R u B2) :
    EvG (tCall (spGen A Rc) [] E (tCons td (tCons te tNil))) σ B d R :=
  eg_call (Rs := fun us B' => ∃ v, us = [.ref d, v] ∧ R1 v B') (ega_sd (ega_consV hd (ega_one h)) fun us B' _ h => by
      obtain ⟨r, rfl, v, rfl, h⟩ := h
      exact ⟨v, rfl, h⟩) (fun us B1 H1 e1 h e2 => by
      obtain ⟨v, rfl, h⟩ := h
      exact ⟨[v], rfl, ha v B1 H1 e1 h e2⟩) fun rest B1 B2 u e1 h e2 hc => by
      obtain ⟨v, ev, h⟩ := h
      obtain rfl : rest = [v] := (List.cons.inj ev).2
      exact hr v u B1 B2 e1 h e2 hc
/-- f(draws) -/
theorem eg_call0 {A : List V → Hp → Prop} {Rc : List V → V → Hp → Prop} (hd : Ev td σ B (.ref d)) (ha : ∀ H1, Ex B H1 → A [] H1) (hr : ∀ u B2, Ex B B2 → Rc [] u B2 → R u B2) :
    EvG (tCall (spGen A Rc) [] E (tCons td tNil)) σ B d R :=
  eg_call (Rs := fun us B' => us = [.ref d] ∧ B' = B) (ega_lift (ea_cons hd ea_nil)) (fun us B1 H1 _ h e2 => ⟨[], h.1, ha H1 (by rw [← h.2]; exact e2)⟩) fun rest B1 B2 u _ h e2 hc => by
      obtain rfl : rest = [] := (List.cons.inj h.1).2
      exact hr u B2 (by rw [← h.2]; exact e2) hc
/-- [e for k in range(n)], each e drawn -/
theorem eg_lcR {n0 : Nat} {Kp : Addr → V → Hp → Prop} (h : EvGA ta σ B d fun us _ => ∃ n : Nat, us = [.int (n : Int)] ∧ n ≤ n0) (hn0 : n0 ≤ 40000) (hw : ∀ x, wipe ((wipe σ vs).set j (some x)) vs = wipe σ vs)
    (hk : ∀ L v B2 B3, Kp L v B2 → Ex B2 B3 → Kp L v B3) (hu : ∀ L v B2 o, Kp L v B2 → Kp L v (upd B2 L o))
    (he : ∀ (i : Nat) (L : Addr) B1, Ex B B1 → (∃ o, B1 L = some o) → EvG te ((wipe σ vs).set j (some (.int (i : Int)))) B1 d fun v B2 => Kp L v B2) :
    EvG (tLc (iRng1 ta) (gName j) tYes te vs) σ B d fun u B' => ∃ p xs, u = .ref p ∧ B p = none ∧ B' p = some (.lst xs) ∧ xs.length ≤ n0 ∧ ∀ x ∈ xs, Kp p x B' := fun H s Q q =>
  h H s _ fun us B1 H1 e1 s1 r1 => by
    obtain ⟨n, rfl, hn⟩ := r1
    refine ⟨(n : Int), rfl, by omega, by omega, fun L hL => ?_⟩
    have nb : B1 L = none := fresh_back s1.ex hL
    refine lc_range (lo := 0) (n := ((n : Int) - 0).toNat) (fun i H' => ∃ B2 acc, Ex B1 B2 ∧ Sd B2 d H' ∧ B2 L = some (.lst acc) ∧ acc.length = i ∧ ∀ x ∈ acc, Kp L x B2) ⟨upd B1 L (.lst []), [], Ex.new nb, (s1.mono (Ex.new hL)).known (s1.ne hL) upd_same, upd_same, rfl, fun x hx => absurd hx (by simp)⟩ (fun i H2 hi p => ?_) (fun H2 p => ?_)
    · obtain ⟨B2, acc, e2, s2, h2, hl, hx⟩ := p
      have e0 : (0 : Int) + (i : Int) = (i : Int) := Int.zero_add _
      rw [e0]
      refine ⟨hw _, ?_⟩
      show (fun b H3 => _) true H2
      simp only [if_true]
      refine he i L B2 (e1.trans e2) ⟨_, h2⟩ H2 s2 _ fun v B3 H3 e3 s3 r3 => ?_
      have h3 : B3 L = some (.lst acc) := e3 _ _ h2
      refine ⟨acc, s3.ex _ _ h3, sz_lt (by omega), upd B3 L (.lst (acc ++ [v])), acc ++ [v], (e2.trans e3).mut nb, s3.change h3, upd_same, by rw [List.length_append, hl]; rfl, fun x hx2 => ?_⟩
      rcases List.mem_append.mp hx2 with z | z
      · exact hu L x B3 _ (hk L x B2 B3 (hx x z) e3)
      · rw [List.mem_singleton.mp z]
        exact hu L v B3 _ r3
    · obtain ⟨B2, acc, e2, s2, h2, hl, hx⟩ := p
      exact q (.ref L) B2 H2 (e1.trans e2) s2 ⟨L, acc, rfl, fresh_back e1 nb, h2, by omega, hx⟩
end
end KD
-- KRep
/-! a text, so many times; more of what is drawn -/
namespace KEv
open PySem PySem.Spec PyProof.Rows L2 Evl
def rRepS : R2 := fun x y H Q => ∃ (a : Str) (n : Nat), x = .str a ∧ y = .int (n : Int) ∧ 1 ≤ n ∧ n ≤ 1000 ∧ a.length ≤ 1000 ∧ Q (.str (repS a n)) H
theorem repS_one (a : Str) : repS a 1 = a := by
  unfold repS
  simp
theorem fold_rep (c : Array Nat) : ∀ (n : Nat) (acc : Array Nat), (List.replicate n c).foldl (· ++ ·) acc = (acc.toList ++ (List.replicate n c.toList).flatten).toArray
  | 0, acc => by simp
  | n + 1, acc => by
    rw [List.replicate_succ, List.foldl_cons, fold_rep c n (acc ++ c), List.replicate_succ, List.flatten_cons]
    simp
theorem op_repS {X : Cx} : OpR X (binaryOp .Mult) rRepS := by
  intro pins s σ H x y v u Q I rx ry h
  obtain ⟨a, n, rfl, rfl, h1, h2, h3, q⟩ := h
  obtain ⟨t, rfl⟩ := rx
  obtain ⟨t2, rfl⟩ := ry
  have hm : a.length * n ≤ 1000 * 1000 := Nat.mul_le_mul h3 h2
  refine PySem.P.mul_str ?_ (fun _ _ => ?_) (fun _ _ => ?_) ?_
  · have z1 : decide ((n : Int) < -(2 ^ 63 : Int)) = false := decide_eq_false (by omega)
    have z2 : decide ((n : Int) ≥ 2 ^ 63) = false := decide_eq_false (by omega)
    rw [z1, z2]
    rfl
  · have : (a.length : Int) ≤ (2 ^ 63 - 1) / (n : Int) := by
      apply Int.le_ediv_of_mul_le (by omega)
      have : (a.length : Int) * (n : Int) = ((a.length * n : Nat) : Int) := by simp
      rw [this]
      omega
    omega
  · exact PyProof.Rows.short24 (by rw [Int.toNat_natCast]; omega)
  · rw [if_neg (by omega)]
    split
    · rename_i hz
      have e : repS a n = a := by
        rcases Bool.or_eq_true_iff.mp hz with z | z
        · have : n = 1 := by have := beq_iff_eq.mp z; omega
          rw [this, repS_one]
        · have z2 : a.length = 0 := beq_iff_eq.mp z
          have z3 : a.cps.toList = [] := List.length_eq_zero_iff.mp (by rw [Array.length_toList]; exact z2)
          unfold repS
          rw [z3]
          cases a with
          | mk c =>
            have : c = #[] := by
              have z4 : c.toList = [] := z3
              exact Array.toList_eq_nil_iff.mp z4
            subst this
            simp
      rw [e] at q
      exact ⟨.str a, H, I, ⟨t, rfl⟩, q⟩
    · have e : (⟨(List.replicate (n : Int).toNat a.cps).foldl (· ++ ·) #[]⟩ : Str) = repS a n := by
        rw [Int.toNat_natCast]
        unfold repS
        have z := fold_rep a.cps n #[]
        rw [z]
        simp
      rw [e]
      have hl : (repS a n).length = a.length * n := by
        rw [TL.len_tl]
        show (TL.tl (repS a n)).length = _
        unfold repS TL.tl
        simp [Str.length, Nat.mul_comm]
      exact ⟨Nat.le_trans (by rw [hl]; exact hm) (by decide), .str (repS a n), H, I.tok _, ⟨_, rfl⟩, q⟩
end KEv
namespace KD
open PySem PySem.Spec PyProof.Rows L2 Evl KEv KSq
theorem rv_repS {a : Str} {n : Nat} {H : Hp} (h1 : 1 ≤ n) (h2 : n ≤ 1000) (h3 : a.length ≤ 1000) : RV rRepS (.str a) (.int (n : Int)) H (.str (repS a n)) := fun H1 _ _ q => ⟨a, n, rfl, rfl, h1, h2, h3, q H1 (Ex.refl H1)⟩
/-- truth of a value -/
def tTru (K : PySem.W.Frag) (ta : TE) : TT := fun σ H Q => ta σ H fun x H' => ∃ k, TruV K x H' k ∧ Q k H'
theorem pt_tru {X : Cx} {a : Expr} {ta : TE} (ha : PE X a ta) (he : ∀ whole, isTrue a X.env whole = (do let v ← whole; standAt a.pos; holding [v] (truthy v)) := by intro _; rfl) : PT X a (tTru X.K ta) := pt_truth ha he
section
variable {K : PySem.W.Frag} {σ : L2.St} {B H : Hp} {d : Addr} {ta tr : TA} {tb te td tc ti : TE} {tl th : TO} {x v : V} {R R' Rb : V → Hp → Prop} {r : R2} {E : XK} {j : Nat} {vs : List Nat} {D : Ends} {tz tu : TS}
theorem et_truL {a : Addr} {xs : List V} (h : Ev te σ H (.ref a)) (hx : SqL K H a xs) : EvT (tTru K te) σ H (!xs.isEmpty) := fun H1 e Q q => h H1 e _ fun H2 e2 => ⟨!xs.isEmpty, .inl ⟨xs, ex_l (e.trans e2) hx, rfl⟩, q H2 e2⟩
/-- a slice of a drawn text, the bounds pure -/
theorem eg_slS {lo hi : Option Int} (h : EvG te σ B d R) (h1 : ∀ B1, EvO tl σ B1 lo) (h2 : ∀ B1, EvO th σ B1 hi) (hr : ∀ v B1, R v B1 → ∃ x : Str, v = .str x ∧ x.length ≤ 1000000 ∧ R' (.str (cutS x lo hi)) B1) : EvG (tSl rSlS te tl th) σ B d R' := fun H s Q q =>
  h H s _ fun v B1 H1 e1 s1 r1 => h1 B1 H1 s1.ex _ fun H2 e2 => h2 B1 H2 (s1.ex.trans e2) _ fun H3 e3 => by
    obtain ⟨x, rfl, hx, r2⟩ := hr v B1 r1
    exact ⟨x, rfl, Nat.le_trans hx (by decide), q _ B1 H3 e1 ((s1.mono e2).mono e3) r2⟩
/-- a drawn item of a list that is made on the way -/
theorem eg_itemN {n : Int} {Pv : V → Prop} (h : EvG te σ B d fun u B' => ∃ p us, u = .ref p ∧ B' p = some (.lst us) ∧ n ≤ (us.length : Int) ∧ ∀ v ∈ us, Pv v) (hi : ∀ B1, EvG ti σ B1 d fun v _ => ∃ k : Nat, v = .int (k : Int) ∧ (k : Int) < n) : EvG (tOp (rIxL K) te ti) σ B d fun v _ => Pv v :=
  eg_op (Rb := fun _ v _ => ∃ k : Nat, v = .int (k : Int) ∧ (k : Int) < n) h (fun u B1 _ _ => hi B1) fun u y B1 B2 _ hu e2 hy => by
    obtain ⟨p, us, rfl, hp, hn, hv⟩ := hu
    obtain ⟨k, rfl, hk⟩ := hy
    have hr : k < us.length := by omega
    have hc : us[k]? = some us[k] := List.getElem?_eq_getElem hr
    exact ⟨_, rv_ixL (sq_of (e2 _ _ hp)) (atI_nat hc), hv _ (List.mem_of_getElem? hc)⟩
/-- xs.append(e), e drawn -/
theorem g_app {l : Addr} {xs : List V} (hl : B l = some (.lst xs)) (ha : ∀ B1, Ev tb σ B1 (.ref l)) (h : EvG te σ B d R) (hz : xs.length < 100000) (s : Sd B d H) (k : ∀ v B1 H1, Ex B B1 → R v B1 → Sd (upd B1 l (.lst (xs ++ [v]))) d H1 → D.nx σ H1) : tDrop (tBM K "list" rAppend tb (tCons te tNil)) D σ H :=
  ha B H s.ex _ fun H1 e1 => ⟨Or.inl ⟨rfl, xs, sq_of (e1 _ _ (s.ex _ _ hl))⟩, h H1 (s.mono e1) _ fun v B2 H2 e2 s2 r2 => ⟨l, xs, v, rfl, rfl, s2.ex _ _ (e2 _ _ hl), sz_lt hz, k v B2 _ e2 r2 (s2.change (e2 _ _ hl))⟩⟩
theorem gq_app {l : Addr} {xs : List V} (hl : B l = some (.lst xs)) (ha : ∀ B1, Ev tb σ B1 (.ref l)) (h : EvG te σ B d R) (hz : xs.length < 100000) (s : Sd B d H) (k : ∀ v B1 H1, Ex B B1 → R v B1 → Sd (upd B1 l (.lst (xs ++ [v]))) d H1 → tz D σ H1) : tSeq (tDrop (tBM K "list" rAppend tb (tCons te tNil))) tz D σ H :=
  g_app (D := { D with nx := tz D }) hl ha h hz s k
/-- for k in range(n), n drawn: the turns draw -/
theorem gq_range {tn : TE} {m : Nat} (h : EvG tn σ B d fun v _ => ∃ n : Nat, v = .int (n : Int) ∧ n ≤ m) (s : Sd B d H) (hm : m ≤ 100000) (Pv : Nat → L2.St → Hp → Prop) (h0 : ∀ B1 H1, Ex B B1 → Sd B1 d H1 → Pv 0 σ H1)
    (hs : ∀ (i : Nat) σ' H', i < m → Pv i σ' H' → tu { D with nx := Pv (i + 1), ct := Pv (i + 1), bk := tz D } (σ'.set j (some (.int (i : Int)))) H') (hd : ∀ n σ' H', n ≤ m → Pv n σ' H' → tz D σ' H') : tSeq (tFor (iRng1 (tCons tn tNil)) (gName j) tu) tz D σ H :=
  h H s _ fun v B1 H1 e1 s1 r1 => by
    obtain ⟨n, rfl, hn⟩ := r1
    exact ⟨(n : Int), rfl, by omega, by omega, for_range (lo := 0) (n := (n : Int).toNat) (D := { D with nx := tz D }) (g := gName j) (tb := tu) Pv (h0 B1 H1 e1 s1) (fun i σ' H' hi p => by
      have e0 : (0 : Int) + (i : Int) = (i : Int) := Int.zero_add _
      show tu _ (σ'.set j (some (.int ((0 : Int) + (i : Int))))) H'
      rw [e0]
      exact hs i σ' H' (by omega) p) fun σ' H' p => hd _ σ' H' (by omega) p⟩
end
end KD
-- E4
namespace K87
open PySem PySem.Spec PyProof.Rows L2 Evl KEv TL KD KDd KSq
section
variable {P : Program} {w : World} {K : PySem.W.Frag} {mg : Str → Option Value} {base : Heap}
/-! _law_take -/
theorem scTake : FnScope ["draws", "many"] ["draws", "many"] (defScope (topS 28)) := ⟨rfl, rfl, rfl, by decide +kernel, rfl, by decide +kernel, by decide +kernel⟩
theorem mod_range {a m : Int} (h : 0 < m) : 0 ≤ a.fmod m ∧ a.fmod m < m := ⟨Int.fmod_nonneg_of_pos a h, Int.fmod_lt_of_pos a h⟩
theorem ok_take {f : Addr} {fd : FuncData} (D : DefAt K mg 28 "_law_take" ["draws", "many"] f fd) (mi : mg "int" = none) : FnOk P w K mg base CX0 1 f fd ["draws", "many"] spTake := by
  refine D.F.ok scTake (fun vs H Q E h => ?_) (fun cdv A outer s H vs Q E hr h => ?_)
  · obtain ⟨d, rest, rfl, _, ⟨m, rfl, _⟩, _⟩ := h
    rfl
  · obtain ⟨d, rest, rfl, hd, ⟨m, rfl, hm⟩, k⟩ := h
    obtain ⟨xs, g, hx⟩ := hd
    have s0 : Sd (hide H d) d H := Sd.of ⟨xs, g, hx⟩
    refine ⟨_, pss_cons (ps_if (pt_not (pt_tru (pv 0))) (pss_one (ps_ret pe_int)) pss_nil)
      (pss_one (ps_ret (pe_op op_modN (pe_callTy call_intI (by rfl) mi (by decide +kernel) (pa_cons (pe_bm0 PySem.F.plainAttrs_list PySem.F.slot_list_pop PySem.F.type_list_pop mt_pop (pv 0)) pa_nil)) (pv 1)))), ?_⟩
    cases xs with
    | nil => exact q_when (b := true) (et_is (et_not (et_truL (xs := []) (ev_var rfl) (sq_of hx))) rfl) (fun _ H1 e1 => s_ret ev_c fun H2 e2 => k _ (hide H d) H2 (Ex.refl _) (s0.mono (e1.trans e2)) ⟨m, 0, rfl, rfl, by omega, hm⟩) (fun z => by cases z)
    | cons x r =>
      refine q_when (b := false) (et_is (et_not (et_truL (ev_var rfl) (sq_of hx))) rfl) (fun z => by cases z) (fun _ H1 e1 => ?_)
      have hx1 := e1 _ _ hx
      have hlast : (x :: r).length - 1 < (x :: r).length := by simp
      have hp : ((x :: r).map V.int)[((x :: r).map V.int).length - 1]? = some (.int (x :: r)[(x :: r).length - 1]) := by
        rw [List.length_map, List.getElem?_map, List.getElem?_eq_getElem hlast]
        rfl
      refine ⟨.ref d, rfl, .inl ⟨rfl, _, sq_of hx1⟩, d, (x :: r).map V.int, .int (x :: r)[(x :: r).length - 1], rfl, rfl, hx1, hp, ?_⟩
      refine .inl ⟨_, rfl, .int m, rfl, _, m, rfl, rfl, (by omega), ?_⟩
      have e : ((x :: r).map V.int).dropLast = (x :: r).dropLast.map V.int := (List.map_dropLast ..).symm
      rw [e]
      have g' : GoodL (x :: r).dropLast := ⟨by have := g.1; rw [List.length_dropLast]; omega, fun y hy => g.2 y ((List.dropLast_sublist _).subset hy)⟩
      exact k _ (hide H d) _ (Ex.refl _) ((s0.mono e1).drawn g') ⟨m, _, rfl, rfl, (mod_range hm).1, (mod_range hm).2⟩
end
end K87
-- E5
namespace K87
open PySem PySem.Spec PyProof.Rows L2 Evl KEv TL KD
section
variable {P : Program} {w : World} {K : PySem.W.Frag} {mg : Str → Option Value} {base : Heap}
/-! _law_draws -/
theorem scDraws : FnScope ["script", "first", "cells", "found", "at", "cell", "rest", "k", "mixed"] ["script", "first", "cells"] (defScope (topS 27)) := ⟨rfl, rfl, rfl, by decide +kernel, rfl, by decide +kernel, by decide +kernel⟩
def InR (x : Int) : Prop := 0 ≤ x ∧ x < 2147483647
/-- draws are made of any whole numbers -/
def spDraws (K : PySem.W.Frag) : Sp := fun vs H Q _ => ∃ (a : Addr) (ns : List Int), vs = [.ref a, .int 0, .int 20] ∧ SqL K H a (ns.map V.int) ∧ ∀ p H2 xs, H p = none → Ex H H2 → H2 p = some (.lst (xs.map V.int)) → GoodL xs → Q (.ref p) H2
theorem mod997 (a : Int) : InR (a.fmod 997) := by
  have := mod_range (a := a) (show (0 : Int) < 997 by decide)
  exact ⟨this.1, by omega⟩
/-- so many numbers stand in the new list -/
def Lw (p : Addr) (H : Hp) (n : Nat) (H' : Hp) : Prop := Ex H H' ∧ ∃ xs : List Int, H' p = some (.lst (xs.map V.int)) ∧ xs.length = n ∧ ∀ x ∈ xs, InR x
theorem Lw.mono {p : Addr} {H H' H2 : Hp} {n : Nat} (h : Lw p H n H') (e : Ex H' H2) : Lw p H n H2 := ⟨h.1.trans e, h.2.imp fun xs g => ⟨e _ _ g.1, g.2⟩⟩
theorem Lw.app {p : Addr} {H H' : Hp} {n : Nat} {x : Int} (hp : H p = none) {xs : List Int} (e : Ex H H') (hl : xs.length = n) (hx : ∀ y ∈ xs, InR y) (h : InR x) : Lw p H (n + 1) (upd H' p (.lst (xs.map V.int ++ [.int x]))) := ⟨e.mut hp, xs ++ [x], by rw [List.map_append]; exact upd_same, by rw [List.length_append, hl]; rfl, fun y hy => by
  rcases List.mem_append.mp hy with hy | hy
  · exact hx y hy
  · rw [List.mem_singleton.mp hy]
    exact h⟩
theorem ok_draws {f : Addr} {fd : FuncData} (D : DefAt K mg 27 "_law_draws" ["script", "first", "cells"] f fd) (N : Nm mg) (mi : mg "int" = none) (ma : mg "abs" = none) (ms : mg "sum" = none) (mr : mg "range" = none) : FnOk P w K mg base CX0 1 f fd ["script", "first", "cells"] (spDraws K) := by
  refine D.F.ok scDraws (fun vs H Q E h => ?_) (fun cdv A outer s H vs Q E hr h => ?_)
  · obtain ⟨a, ns, rfl, _⟩ := h
    rfl
  · obtain ⟨a, ns, rfl, hS, k⟩ := h
    refine ⟨_, pss_cons (ps_asg (pe_lst pa_nil) (pg_name (i := 3) scDraws.nd rfl (.inl rfl)))
      (pss_cons (ps_for PassesOwn.never rfl (pi_range2 (by rfl) mr (pa_cons (pv 1) (pa_cons (pe_op op_add (pv 1) (pv 2)) pa_nil))) (pg_name (i := 4) scDraws.nd rfl (.inl rfl))
        (pss_cons (ps_asg (pe_op op_add (pe_op op_modN (pe_callB call_absI (by rfl) ma (by decide +kernel) (pa_cons (pe_callTy call_intI (by rfl) mi (by decide +kernel) (pa_cons (pe_callB (cr_sum (by rfl)) (by rfl) ms (by decide +kernel) (pa_cons (pv 0) pa_nil)) pa_nil)) pa_nil)) pe_int) (pe_op op_mul (pv 4) pe_int)) (pg_name (i := 5) scDraws.nd rfl (.inl rfl)))
        (pss_cut (ps_if (pt_cmpR op_lt (pv 4) (pe_callB call_len_seq (by rfl) N.len PySem.boot_len (pa_cons (pv 0) pa_nil)) (nomark _))
          (pss_one (ps_asg (pe_callB call_absI (by rfl) ma (by decide +kernel) (pa_cons (pe_callTy call_intI (by rfl) mi (by decide +kernel) (pa_cons (pe_ix ix_list (pv 0) (pv 4) (fun _ _ => rfl)) pa_nil)) pa_nil)) (pg_name (i := 5) scDraws.nd rfl (.inl rfl)))) pss_nil)
        (pss_cons (ps_asg (pv 5) (pg_name (i := 6) scDraws.nd rfl (.inl rfl)))
        (pss_one (ps_for PassesOwn.never rfl (pi_range1 (by rfl) mr (pa_cons pe_int pa_nil)) (pg_name (i := 7) scDraws.nd rfl (.inl rfl))
          (pss_one (ps_if (PW.pt (pw_and (pt_cmpR op_ge (pv 5) (pe_op op_pow pe_int pe_int) (nomark _)) (pw_and1 (pt_cmpR op_gt (pv 6) pe_int (nomark _)))))
            (pss_cons (ps_expr (pe_bm PySem.F.plainAttrs_list PySem.F.slot_list_append PySem.F.type_list_append mt_append (pv 3) (pa_cons (pe_op op_modN (pe_callTy call_intI (by rfl) mi (by decide +kernel) (pa_cons (pv 6) pa_nil)) pe_int) pa_nil)))
            (pss_one (ps_asg (pe_op op_fdiv (pv 6) pe_int) (pg_name (i := 6) scDraws.nd rfl (.inl rfl)))))
            (pss_cons (ps_asg (pe_op op_modN (pe_callTy call_intI (by rfl) mi (by decide +kernel) (pa_cons (pe_op op_add (pe_op op_add (pe_op op_mul (pv 5) pe_int) (pe_op op_mul (pe_op op_add (pv 7) pe_int) pe_int)) (pe_op op_mul (pv 4) pe_int)) pa_nil)) pe_int) (pg_name (i := 8) scDraws.nd rfl (.inl rfl)))
            (pss_cons (ps_asg (pe_op op_modN (pe_callTy call_intI (by rfl) mi (by decide +kernel) (pa_cons (pe_op op_add (pe_op op_mul (pv 8) (pv 8)) (pe_op op_mul pe_int (pe_op op_add (pv 7) pe_int))) pa_nil)) pe_int) (pg_name (i := 8) scDraws.nd rfl (.inl rfl)))
            (pss_one (ps_expr (pe_bm PySem.F.plainAttrs_list PySem.F.slot_list_append PySem.F.type_list_append mt_append (pv 3) (pa_cons (pe_op op_modN (pe_callTy call_intI (by rfl) mi (by decide +kernel) (pa_cons (pe_op op_fdiv (pv 8) pe_int) pa_nil)) pe_int) pa_nil))))))))))))))
      (pss_cons (ps_expr (pe_bm0 PySem.F.plainAttrs_list PySem.F.slot_list_reverse PySem.F.type_list_reverse mt_reverse (pv 3)))
      (pss_one (ps_ret (pv 3))))), ?_⟩
    refine q_asgL (el_lst ea_nil (by decide)) fun p H1 hp e1 h1 => ?_
    have hp' : H p = none := hp
    refine q_forR2 (lo := 0) (n := 20) (ea_cons (ev_var rfl) (ea_cons (ev_op (ev_var rfl) (ev_var rfl) rv_I0) ea_nil)) (by decide) (fun i σ H' => (∃ u4 u5 u6 u7 u8, σ = [some (.ref a), some (.int 0), some (.int 20), some (.ref p), u4, u5, u6, u7, u8]) ∧ Lw p H (40 * i) H')
      (fun H2 e2 => ⟨⟨_, _, _, _, _, rfl⟩, e1.trans e2, [], e2 _ _ h1, rfl, fun x hx => absurd hx (by simp)⟩) (fun i σ H2 hi q => ?_) (fun σ H2 q => ?_)
    · obtain ⟨⟨u4, u5, u6, u7, u8, rfl⟩, q⟩ := q
      have hSa : SqL K H2 a (ns.map V.int) := ex_l q.1 hS
      refine q_asg (ev_op (ev_op (ev_cb (ea_cons (ev_cb (ea_cons (ev_cb (ea_cons (ev_var rfl) ea_nil) (rc_sum hSa)) ea_nil) rc_intI) ea_nil) rc_abs) ev_c (rv_I (by decide))) (ev_op (ev_var rfl) ev_c (rv_I (.inr (by decide)))) rv_I0) fun H3 e3 => ?_
      have hSb : SqL K H3 a (ns.map V.int) := ex_l e3 hSa
      refine q_cut (M := fun σ H' => (∃ c : Int, σ = [some (.ref a), some (.int 0), some (.int 20), some (.ref p), some (.int (0 + (i : Int))), some (.int c), u6, u7, u8]) ∧ Lw p H (40 * i) H') ?_ fun σ H4 q4 => ?_
      · refine s_when (et_test (ev_op (ev_var rfl) (ev_len (ev_var rfl) hSb) rv_I0)) (fun hb H4 e4 => ?_) (fun hb H4 e4 => ⟨⟨_, rfl⟩, (q.mono e3).mono e4⟩)
        have hb := of_decide_eq_true hb
        rw [List.length_map] at hb
        have hi2 : i < ns.length := by omega
        have hg : (ns.map V.int)[i]? = some (.int ns[i]) := by
          rw [List.getElem?_map, List.getElem?_eq_getElem hi2]
          rfl
        refine s_asg (ev_cb (ea_cons (ev_cb (ea_cons (ev_op (ev_var rfl) (ev_var rfl) (rv_ixL (ex_l e4 hSb) (at_of (show (0 : Int) + (i : Int) = ((i : Nat) : Int) by omega) hg))) ea_nil) rc_intI) ea_nil) rc_abs) fun H5 e5 => ⟨⟨_, rfl⟩, ((q.mono e3).mono e4).mono e5⟩
      · obtain ⟨⟨c, rfl⟩, q⟩ := q4
        refine q_asg (ev_var rfl) fun H5 e5 => ?_
        refine s_forR1 (n := 40) (ea_cons ev_c ea_nil) (by decide) (fun j σ H' => (∃ (r : Int) (u7 u8 : Option V), σ = [some (.ref a), some (.int 0), some (.int 20), some (.ref p), some (.int (0 + (i : Int))), some (.int c), some (.int r), u7, u8]) ∧ Lw p H (40 * i + j) H')
          (fun H6 e6 => ⟨⟨_, _, _, rfl⟩, (q.mono e5).mono e6⟩) (fun j σ H6 hj q => ?_) (fun σ H6 q => ?_)
        · obtain ⟨⟨r, u7, u8, rfl⟩, q⟩ := q
          refine s_if (et_and (et_test (ev_op (ev_var rfl) (ev_op ev_c ev_c (rv_I ⟨by decide, by decide, by decide⟩)) rv_I0)) fun _ => et_test (ev_op (ev_var rfl) ev_c rv_I0)) (fun _ H7 e7 => ?_) (fun _ H7 e7 => ?_)
          · obtain ⟨e8, xs, hx, hl, hin⟩ := q.mono e7
            refine q_app hx (ev_var rfl) (ev_op (ev_cb (ea_cons (ev_var rfl) ea_nil) rc_intI) ev_c (rv_I (by decide))) (by rw [List.length_map]; omega) fun H8 e9 => ?_
            refine s_asg (ev_op (ev_var rfl) ev_c (rv_I ⟨by decide, by decide⟩)) fun H9 e10 => ⟨⟨_, _, _, rfl⟩, (Lw.app hp' (e8.trans e9) hl hin (mod997 _)).mono e10⟩
          · refine q_asg (ev_op (ev_cb (ea_cons (ev_op (ev_op (ev_op (ev_var rfl) ev_c (rv_I (.inr (by decide)))) (ev_op (ev_op (ev_var rfl) ev_c rv_I0) ev_c (rv_I (.inr (by decide)))) rv_I0) (ev_op (ev_var rfl) ev_c (rv_I (.inr (by decide)))) rv_I0) ea_nil) rc_intI) ev_c (rv_I (by decide))) fun H8 e8 => ?_
            refine q_asg (ev_op (ev_cb (ea_cons (ev_op (ev_op (ev_var rfl) (ev_var rfl) (rv_I (.inl ?_))) (ev_op ev_c (ev_op (ev_var rfl) ev_c rv_I0) (rv_I (.inl (by decide)))) rv_I0) ea_nil) rc_intI) ev_c (rv_I (by decide))) fun H9 e9 => ?_
            · have := mod_range (a := c * 48271 + ((j : Int) + 1) * 69621 + (0 + (i : Int)) * 31) (show (0 : Int) < 2147483647 by decide)
              constructor <;> omega
            · obtain ⟨e10, xs, hx, hl, hin⟩ := ((q.mono e7).mono e8).mono e9
              refine s_app hx (ev_var rfl) (ev_op (ev_cb (ea_cons (ev_op (ev_var rfl) ev_c (rv_I ⟨by decide, by decide⟩)) ea_nil) rc_intI) ev_c (rv_I (by decide))) (by rw [List.length_map]; omega) fun H8 e9 => ⟨⟨_, _, _, rfl⟩, Lw.app hp' (e10.trans e9) hl hin (mod997 _)⟩
        · obtain ⟨⟨r, u7, u8, rfl⟩, q⟩ := q
          exact ⟨⟨_, _, _, _, _, rfl⟩, q⟩
    · obtain ⟨⟨u4, u5, u6, u7, u8, rfl⟩, e2, xs, hx, hl, hin⟩ := q
      have e3 : (xs.map V.int).reverse = xs.reverse.map V.int := (List.map_reverse ..).symm
      refine ⟨.ref p, rfl, .inl ⟨rfl, _, sq_of hx⟩, p, xs.map V.int, rfl, rfl, hx, ?_⟩
      rw [e3]
      refine s_ret (ev_var rfl) fun H4 e4 => k p H4 xs.reverse hp ((e2.mut hp).trans e4) (e4 _ _ upd_same) ⟨by rw [List.length_reverse, hl]; decide, fun x hx => hin x (List.mem_reverse.mp hx)⟩
end
end K87
-- KSame
/-! isinstance, is None, not xs, an expression over a locked dict -/
namespace KSame
open PySem PySem.Spec PyProof.Rows L2 Evl KSq
def rIsN : R2 := fun x y H Q => y = .non ∧ Q (.bl (decide (x = .non))) H
theorem op_isNon {X : Cx} : OpR X (compareOp .Is) rIsN := op_isN
section
variable {K : PySem.W.Frag} {σ : L2.St} {H : Hp} {ta te : TE} {x : V}
theorem rv_isN : RV rIsN x .non H (.bl (decide (x = .non))) := fun H1 _ _ q => ⟨rfl, q H1 (Ex.refl H1)⟩
theorem rc_isi {A B : String} {r : Bool} (ty : ∀ H1, Ex H H1 → TyX K H1 x (.type A)) (h : kitB A B = some r) : RC (rIsi K) [x, .ty B] H (.bl r) := fun H1 e _ q => ⟨x, .ty B, .type A, .type B, r, rfl, .ty B, ty H1 e, kit_ty h, q H1 (Ex.refl H1)⟩
def tNotE (K : PySem.W.Frag) (ta : TE) : TE := fun σ H Q => ta σ H fun x H1 => ∃ k, TruV K x H1 k ∧ Q (.bl (!k)) H1
theorem pe_notE {X : Cx} {a : Expr} {pos : Pos} (ha : PE X a ta) : PE X (.UnaryOp .Not a pos) (tNotE X.K ta) := ⟨fun pins s σ H Q I h => UnaryOp_ (thn (ha.run pins s σ H _ I h) fun v s1 ⟨x, H1, I1, r1, k, hk, q⟩ =>
  not_of (thn (tru_ok pins s1 σ H1 x v (fun b H2 => Q (.bl (!b)) H2) I1 r1 ⟨k, hk, q⟩) fun b s2 ⟨H2, I2, q2⟩ => ⟨.bl (!b), H2, I2, rfl, q2⟩))⟩
/-- not of a new list -/
theorem ev_notL {xs : List V} (h : EvL ta σ H xs) : Ev (tNotE K ta) σ H (.bl xs.isEmpty) := fun H1 e Q q => h H1 e _ fun p H2 _ e2 h2 => ⟨!xs.isEmpty, .inl ⟨xs, sq_of h2, rfl⟩, by rw [Bool.not_not]; exact q H2 e2⟩
theorem ev_lock {d : Addr} {u : HO} {v : V} (h : H d = some u) (mu : Mut (some u)) (hv : ∀ od H1, Ex H H1 → H1 d = some u → Ev te σ (upd H1 d (.frz od u)) v) : Ev (tLockE te) σ H v := fun H1 e Q q =>
  ⟨d, u, e _ _ h, mu, fun od => hv od H1 e (e _ _ h) _ (Ex.refl _) _ fun H2 e2 => ⟨e2 _ _ upd_same, q _ fun b o hb => by
    by_cases z : b = d
    · rw [z, e _ _ h] at hb
      rw [z, upd_same, hb]
    · rw [upd_ne z]
      exact e2 _ _ (by rw [upd_ne z]; exact hb)⟩⟩
end
end KSame
-- KSame2
namespace KSame
open PySem PySem.Spec PyProof.Rows L2 Evl KSq
section
variable {K : PySem.W.Frag} {σ : L2.St} {H : Hp} {ta te td ty tp : TE} {t : TT} {x : V} {j : Nat} {vs : List Nat}
theorem ev_isi {A B : String} {r : Bool} (ha : Ev ta σ H x) (ty : ∀ H1, Ex H H1 → TyX K H1 x (.type A)) (h : kitB A B = some r) : Ev (tCB (rIsi K) (tCons ta (tCons (tC (.ty B)) tNil))) σ H (.bl r) := ev_cb (ea_cons ha (ea_cons ev_c ea_nil)) (rc_isi ty h)
theorem ev_isiT2 {A B C : String} (ha : Ev ta σ H x) (ty : ∀ H1, Ex H H1 → TyX K H1 x (.type A)) (h : kitB A B = some true ∨ (kitB A B = some false ∧ kitB A C = some true)) : Ev (tCB (rIsiT K) (tCons ta (tCons (tTup (tCons (tC (.ty B)) (tCons (tC (.ty C)) tNil))) tNil))) σ H (.bl true) := fun H1 e Q q =>
  ha H1 e _ fun H2 e2 => ⟨by show 2 ≤ sizeLine; decide, fun p hp => ⟨x, p, [.ty B, .ty C], .type A, [.type B, .type C], true, rfl, upd_same, .cons (.ty B) (.cons (.ty C) .nil), ty _ ((e.trans e2).trans (Ex.new hp)), by
    rcases h with h | ⟨h1, h2⟩
    · exact kitAny_cons (kit_ty h) (fun z => nomatch z) fun _ => rfl
    · exact kitAny_cons (kit_ty h1) (fun _ => kitAny_cons (kit_ty h2) (fun z => nomatch z) fun _ => rfl) (fun z => nomatch z), q _ (e2.trans (Ex.new hp))⟩⟩
theorem ev_lenSq {p : Addr} {xs : List V} (ha : Ev ta σ H (.ref p)) (h : Sq K H p xs) : Ev (tCB (rLenS K) (tCons ta tNil)) σ H (.int (xs.length : Int)) := fun H1 e Q q =>
  ha H1 e _ fun H2 e2 => ⟨p, xs, rfl, ex_sq (e.trans e2) h, q H2 e2⟩
def rLenD : List V → Hp → VK → Prop := fun xs H Q => ∃ a kvs, xs = [V.ref a] ∧ H a = some (.dK kvs) ∧ Q (.int kvs.length) H
theorem call_lenDk {X : Cx} : CallR X (.builtin "len") rLenD := call_lenD
theorem ev_lenDk {p : Addr} {kvs : List (Key × V)} (ha : Ev ta σ H (.ref p)) (h : H p = some (.dK kvs)) : Ev (tCB rLenD (tCons ta tNil)) σ H (.int (kvs.length : Int)) := fun H1 e Q q =>
  ha H1 e _ fun H2 e2 => ⟨p, kvs, rfl, e2 _ _ (e _ _ h), q H2 e2⟩
theorem rv_ixSq {p : Addr} {xs : List V} {i : Int} {v : V} (h : Sq K H p xs) (ha : atI xs i = some v) : RV (rIx K) (.ref p) (.int i) H v := fun H1 e _ q => by
  rcases h with h | h
  · exact .inl ⟨p, xs, i, v, rfl, rfl, ex_l e h, ha, q H1 (Ex.refl H1)⟩
  · exact .inr (.inl ⟨p, xs, i, v, rfl, rfl, ex_t e h, ha, q H1 (Ex.refl H1)⟩)
theorem given_none {n : Nat} {f : Nat → Bool} {v : Nat → V} (h : ∀ i, i < n → f i = false) : given n f v = [] := by
  unfold given
  rw [List.filter_eq_nil_iff.mpr fun i hi => by rw [h i (List.mem_range.mp hi)]; decide]
  rfl
theorem ev_dgetR {a : Addr} {kvs : List (Key × V)} {k : Key} {v : V} (hd : Ev td σ H (.ref a)) (hk : Ev ty σ H (kV k)) (h : Rd H a (.dK kvs)) (hv : valV kvs k = some v) : Ev (tDGet td ty) σ H v := fun H1 e Q q =>
  hd H1 e _ fun H2 e2 => hk H2 (e.trans e2) _ fun H3 e3 => ⟨a, v, rfl, .inl ⟨kvs, k, ex_rd ((e.trans e2).trans e3) h, rfl, hv.symm⟩, q H3 (e2.trans e3)⟩
theorem ev_dnotin {a : Addr} {kvs : List (Key × V)} {k : Key} (hk : Ev ty σ H (kV k)) (hd : Ev td σ H (.ref a)) (h : Rd H a (.dK kvs)) : Ev (tDNotIn ty td) σ H (.bl (!(valV kvs k).isSome)) := fun H1 e Q q =>
  hk H1 e _ fun H2 e2 => hd H2 (e.trans e2) _ fun H3 e3 => ⟨a, _, rfl, .inl ⟨kvs, k, ex_rd ((e.trans e2).trans e3) h, rfl, rfl⟩, q H3 (e2.trans e3)⟩
/-- a list comprehension over the keys of a locked dict -/
theorem el_lcK {d : Addr} {o : Obj} {kvs : List (Key × V)} (f : Nat → Bool) (v : Nat → V) (h : Ev td σ H (.ref d)) (hd : H d = some (.frz o (.dK kvs))) (hz : kvs.length ≤ 40000) (hw : ∀ x, wipe ((wipe σ vs).set j (some x)) vs = wipe σ vs)
    (ht : ∀ (i : Nat) (k : Key) (u : V) H1, Ex H H1 → kvs[i]? = some (k, u) → EvT t ((wipe σ vs).set j (some (kV k))) H1 (f i)) (he : ∀ (i : Nat) (k : Key) (u : V) H1, Ex H H1 → kvs[i]? = some (k, u) → f i = true → Ev te ((wipe σ vs).set j (some (kV k))) H1 (v i)) :
    EvL (tLc (iKeys td) (gName j) t te vs) σ H (given kvs.length f v) := fun H0 e Q q => h H0 e _ fun H1 e1 => ⟨d, o, rfl, .inl ⟨kvs, e1 _ _ (e _ _ hd), fun Dl hD =>
    lc_it walk_keys (Cw H1 f v Dl) ⟨hD, Ex.new hD, upd_same⟩ (fun i H' _ p => p.2.1 _ _ (e1 _ _ (e _ _ hd))) (fun i x H2 H3 hi p y => by
      obtain ⟨rfl, k, u, hx, rfl⟩ := y
      exact ⟨hw _, cw_turn p (by omega) (ht i k u H1 (e.trans e1) hx) (fun hf => he i k u H1 (e.trans e1) hx hf)⟩)
    (fun H' p => q Dl H' (fresh_back e1 p.1) (e1.trans p.2.1) p.2.2)⟩⟩
theorem valV_mem {κ : Type} [DecidableEq κ] : ∀ {kvs : List (κ × V)} {k : κ} {u : V}, (k, u) ∈ kvs → ∃ w, valV kvs k = some w ∧ (k, w) ∈ kvs
  | p :: r, k, u, h => by
    by_cases e : p.1 = k
    · exact ⟨p.2, valV_pos e, by rw [← e]; exact List.mem_cons_self⟩
    · have h2 : (k, u) ∈ r := (List.mem_cons.mp h).elim (fun z => absurd (by rw [← z]) e) id
      obtain ⟨w, h3, h4⟩ := valV_mem h2
      exact ⟨w, (valV_neg e).trans h3, List.mem_cons_of_mem _ h4⟩
end
end KSame
-- KSup
/-! an own error over an own error class over ValueError, whose __init__ says super().__init__(text) and stores its fields -/
namespace KSup
open PySem PySem.W PySem.Calls PyProof.Rows PySem.HandSPX
/-- self.f = f, one after another -/
def Sets : List Str → List Stmt → Prop
  | [], b => b = []
  | f :: fs, b => ∃ q1 q2 q3 q4 r, b = .Assign [.Attribute (.Name "self" q1) f q2] (.Name f q3) q4 :: r ∧ Sets fs r
theorem look_nd {k : Str} {v : Value} : ∀ {l : List (Str × Value)}, (l.map (·.1)).Nodup → (k, v) ∈ l → l.lookup k = some v
  | [], _, h => by cases h
  | (y, u) :: l, nd, h => by
    rw [List.map_cons, List.nodup_cons] at nd
    rcases List.mem_cons.mp h with e | h2
    · cases e
      simp [List.lookup]
    · have ne : (k == y) = false := by
        apply Bool.eq_false_iff.mpr
        intro z
        have z' := eq_of_beq z
        subst z'
        exact nd.1 (List.mem_map_of_mem (f := (·.1)) h2)
      simp only [List.lookup, ne]
      exact look_nd nd.2 h2
theorem look_rev {k : Str} {v : Value} {l : List (Str × Value)} (nd : (l.map (·.1)).Nodup) (h : (k, v) ∈ l) : l.reverse.lookup k = some v :=
  look_nd (by rw [List.map_reverse]; exact (List.reverse_perm _).nodup_iff.mpr nd) (List.mem_reverse.mpr h)
/-- what the written part says of such a class, at C, and of its __init__, at fI -/
structure SupTxt (prog : Program) (K : Frag) (mg : Str → Option Value) (x : Str) (C fI : Addr) (fs : List Str) : Prop where
  gC : mg x = some (.ref C)
  cls : ∃ nm q N bs bm sn sub ab col dd k0 k1 k2 k3 k5, K.lookup C = some (excClassObj nm q C N bs bm true sn sub ab col dd k0 k1 k2 k3 k5 "ValueError.__new__") ∧ refsVE bm = true ∧ alongIn K "__init__" bm = some (some (.builtin "ValueError.__init__"))
  sa : findIn K (.ref C) "__setattr__" = some (some (.builtin "object.__setattr__"))
  iC : findIn K (.ref C) "__init__" = some (some (.ref fI))
  tI : typeIn K (.ref fI) = some (.type "function")
  kC : keepIn K (.ref C) = true
  exC : subIn K (.ref C) (.type "BaseException") = some true
  veC : subIn K (.ref C) (.type "ValueError") = some true
  tyC : typeIn K (.ref C) = some (.type "type")
  cc : mroIn K C (.ref C) = some true
  no : ∀ f ∈ fs, findIn K (.ref C) f = some none
  nd : (("self" : Str) :: fs).Nodup
  nz : fs.length ≤ 8
  dbg : ∀ f ∈ fs, (f == ("__debug__" : Str)) = false
  stat : nsIn K cStatics "thirdparty.any" = some none
  sup : mg "super" = none
  top : (prog.main.scope.names.lookup ("super" : Str)).isSome = false
  fn : ∃ (oc ccl cl : Value) (od cdd cld : Option Addr) (cda cc : Addr) (qual : Str) (par : Arguments) (scope : Scope) (doc pm ct : Value) (an : Option Addr) (osl ccs csl : Array (Option Value)) (vs : Array Value) (file : Str) (tf : Tok) (text : Str) (j : Nat) (p0 p1 p2 p3 p4 p5 : Pos) (rest : List Stmt) (ar : Arg),
    K.lookup fI = some ⟨oc, od, .func (ksFn "__init__" qual par (.Expr (.Call (.Attribute (.Call (.Name "super" p0) [] [] p1) "__init__" p2) [.Constant (.str text) j p3] [] p4) p5 :: rest) scope .none .none doc pm an (.ref cda) ct cc), osl⟩ ∧ codeIn K (.ref cda) qual = true ∧
    Sets fs rest ∧ par.posonlyargs ++ par.args = ar :: (par.posonlyargs ++ par.args).tail ∧ ar.arg = "self" ∧
    K.lookup cda = some ⟨ccl, cdd, .fields vs, ccs⟩ ∧ vs[2]? = some (.str file tf) ∧ ((prog.main.file : Str) == file) = true ∧ (p2.endLine == p4.line) = true ∧
    K.lookup cc = some ⟨cl, cld, .cell (some (.ref C)), csl⟩ ∧
    scope.kind = .function ∧ scope.isCoroutine = false ∧ scope.isGenerator = false ∧ (∀ x ∈ scope.names, x.2 ≠ .cell) ∧ scope.names.lookup ("super" : Str) = some .globalImplicit ∧ scope.names.lookup ("__class__" : Str) = some .free ∧ (∀ f ∈ ("self" : Str) :: fs, scope.names.lookup f = some .local) ∧
    ∀ (s : Shared) (us : List Value), us.length = fs.length + 1 → BindsTo s (ksFn "__init__" qual par (.Expr (.Call (.Attribute (.Call (.Name "super" p0) [] [] p1) "__init__" p2) [.Constant (.str text) j p3] [] p4) p5 :: rest) scope .none .none doc pm an (.ref cda) ct cc) ⟨us, []⟩ ((("self" : Str) :: fs).zip us)
/-- what __init__ leaves of a fresh exception at x -/
structure InitEnd (h h' : Heap) (x C dx t1 : Addr) (acc : List (Str × Value)) : Prop where
  keep : ∀ b o, b ≠ x → h.get? b = some o → h'.get? b = some o
  obj : h'.get? x = some { cls := .ref C, dict := some dx, data := .fields #[.ref t1, .none, .none, .none, .bool false, .none] }
  dbig : h.objs.size ≤ dx
  dne : dx ≠ x
  ns : h'.Ns1 dx fun y => acc.lookup y
section
variable {prog : Program} {w : World} {A : Around} {E : Value → Shared → Prop} {R : Result → Shared → Prop} {K : Frag} {mg : Str → Option Value} {C fI : Addr} {cn : Str} {fs : List Str}
theorem put_look {f : Str} {v : Value} {acc : List (Str × Value)} : (fun y : Str => if y = f then some v else acc.lookup y) = fun y => ((f, v) :: acc).lookup y := by
  funext y
  by_cases h : y = f
  · subst h
    simp [List.lookup]
  · rw [if_neg h]
    have e : (y == f) = false := by simpa using h
    simp [List.lookup, e]
theorem within_acc {acc : List (Str × Value)} : Within (fun y : Str => acc.lookup y) (acc.map (·.1)) := fun y hy => by
  induction acc with
  | nil => exact absurd rfl hy
  | cons p acc ih =>
    obtain ⟨f, v⟩ := p
    by_cases h : y = f
    · rw [h]
      exact List.mem_cons_self
    · have e : (y == f) = false := by simpa using h
      refine List.mem_cons_of_mem _ (ih ?_)
      intro z
      apply hy
      show ((f, v) :: acc).lookup y = none
      simp only [List.lookup, e]
      exact z
/-- the further stores -/
theorem sets_run {env : Env} {L x dx t1 : Addr} {m : Str → Option Value} {cd : ClassData} (hk : env.scope.kind = .function) (hL : env.locals = L) (hm : m "self" = some (.ref x)) (hself : env.kindOf "self" = some .local)
    (hcl : clsIn K C = some cd) (hmr : refsVE cd.mro = true) (hdc : cd.hasDict = true) (hsa : findIn K (.ref C) "__setattr__" = some (some (.builtin "object.__setattr__"))) (hnx : K.lookup dx = none) (hxd : x ≠ dx) (hLd : L ≠ dx) :
    ∀ (fs : List Str) (us : List Value) (b : List Stmt) (acc : List (Str × Value)) (s : Shared), Sets fs b → us.length = fs.length → acc.length + fs.length ≤ 100 → K.In s.heap → s.heap.Ns L m → (∀ f ∈ fs, env.kindOf f = some .local ∧ (f == ("__debug__" : Str)) = false ∧ findIn K (.ref C) f = some none) → (∀ p ∈ fs.zip us, m p.1 = some p.2) →
      s.heap.get? x = some { cls := .ref C, dict := some dx, data := .fields #[.ref t1, .none, .none, .none, .bool false, .none] } → s.heap.Ns1 dx (fun y => acc.lookup y) → ∀ (Q : Flow → Shared → Prop),
      (∀ h' tk, (∀ b o, b ≠ dx → s.heap.get? b = some o → h'.get? b = some o) → h'.Ns1 dx (fun y => ((fs.zip us).reverse ++ acc).lookup y) → Q .next { s with heap := h', toks := tk }) → wpAny (model prog w) A (execs b env) Q E s
  | [], us, b, acc, s, hb, hl, hz, X, hn, hf, hu, hx, ha, Q, q => by
    cases hb
    have e : us = [] := List.length_eq_zero_iff.mp hl
    subst e
    exact wpAny_execs_nil (q s.heap s.toks (fun _ _ _ h => h) ha)
  | f :: fs, us, b, acc, s, hb, hl, hz, X, hn, hf, hu, hx, ha, Q, q => by
    obtain ⟨q1, q2, q3, q4, r, rfl, hr⟩ := hb
    cases us with
    | nil => cases hl
    | cons u us =>
      obtain ⟨f1, f2, f3⟩ := hf f List.mem_cons_self
      have hv : m f = some u := hu (f, u) List.mem_cons_self
      obtain ⟨hp, g, dr, tk, os⟩ := s
      obtain ⟨oD, _, _, hoD, _, _⟩ := ha.count within_acc
      refine wpAny_execs_cons (plainObj_wpAny_Assign_Attribute ?_)
      refine ESX.ldL (by rw [hL]; exact hn) hv (ESX.ldL (by rw [hL]; exact hn) hm ?_ hk hself) hk f1 f2
      refine PySem.W.set_plain X (ox := { cls := .ref C, dict := some dx, data := .fields #[.ref t1, .none, .none, .none, .bool false, .none] }) (od := some oD) ⟨hx, rfl, rfl, hoD⟩ hsa ?_
      refine PySem.OEX.osa_old X hx ha within_acc (by rw [List.length_map]; omega) hcl hmr hdc f3 (fun h' tk' k hn' => ?_)
      show wpAny _ _ (execs _ _) _ _ _
      rw [put_look] at hn'
      have xne : x ≠ dx := hxd
      refine sets_run hk hL hm hself hcl hmr hdc hsa hnx hxd hLd fs us r ((f, u) :: acc) ⟨h', g, dr, tk', os⟩ hr (by simpa using hl) (by simp only [List.length_cons] at hz ⊢; omega)
        (fun a o e => k a o (fun z => by rw [z, hnx] at e; cases e) (X a o e)) (hn.at fun o e => k _ _ hLd e) (fun f h => hf f (List.mem_cons_of_mem _ h)) (fun p h => hu p (List.mem_cons_of_mem _ h)) (k _ _ hxd hx) hn' Q fun h2 tk2 k2 n2 => ?_
      refine q h2 tk2 (fun b o hb e => k2 b o hb (k b o hb e)) ?_
      have e : ((f :: fs).zip (u :: us)).reverse ++ acc = (fs.zip us).reverse ++ (f, u) :: acc := by simp
      rw [e]
      exact n2
/-- super().__init__(..): the call's tree -/
theorem sup_tree {o : Expr} {n : Str} {e : Expr} {apos pos : Pos} {env : Env} (hp : (apos.endLine == pos.line) = true) (he : starEach [e] env = (false, eval e env) :: starEach [] env) :
    eval (.Call (.Attribute o n apos) [e] [] pos) env = (do
      let ov ← attributeBase o n env (eval o env)
      standAt apos.atName
      let (f, first) ← holding [ov] (getMethod ov n (do return (← importBound o env).getD true))
      callWith pos f first (backTo pos (starEach [e] env)) []) := by
  have e1 : ∀ ov, methodCall o n apos pos env ov ([e].length + ([] : List Keyword).length) (backTo pos (starEach [e] env)) (backToKw pos (keywordEach [] env)) = (do
      let (f, first) ← holding [ov] (getMethod ov n (do return (← importBound o env).getD true))
      callWith pos f first (backTo pos (starEach [e] env)) []) := fun ov => by
    unfold methodCall
    have hf : methodCallForm ([e].length + ([] : List Keyword).length) (backTo pos (starEach [e] env)) (backToKw pos (keywordEach [] env)) = true := by
      rw [he]
      rfl
    have hm : methodCallPos true o env apos pos = pure pos := by
      unfold methodCallPos
      rw [hp]
      rfl
    rw [hf, hm]
    simp only [pure_bind]
    rfl
  rw [arm_eval_Call]
  simp only [e1]
/-- ValueError.__init__ bound to the exception, called -/
theorem call_bwV {nm q : Str} {N : Addr} {bs bm : List Value} {hdct : Bool} {sn : List Str} {sub : List Value} {ab : Bool} {col : Option Bool} {dd : Option Addr} {k0 k1 k2 k3 k5 : Option Value} {u e t0 : Addr} {rest : List Value} {h : Heap} {g : Array GenState} {d : Drawn} {t : Nat} {os : OsState} {Q : Value → Shared → Prop}
    (hC : h.get? C = some (excClassObj nm q C N bs bm hdct sn sub ab col dd k0 k1 k2 k3 k5 "ValueError.__new__")) (he : h.get? e = some (excO C t0)) (hu : h.get? u = some (kxs_mw "ValueError.__init__" e)) (hrest : rest.length ≤ sizeLine)
    (hq : ∀ h' t1, (∀ b o, b ≠ e → h.get? b = some o → h'.get? b = some o) → h'.get? e = some (excO C t1) → Q .none ⟨h', g, d, t, os⟩) :
    wpAny (model prog w) A (call (.ref u) rest) Q E ⟨h, g, d, t, os⟩ := by
  refine wpAny_call (codeAny_of_tree ?_)
  show wpAny _ A.in1 (callAny (.ref u) ⟨rest, []⟩) _ _ _
  simp only [callAny]
  refine wpAny_bind (wpAny_load hu ?_)
  simp only [kxs_mw, show (Value.type "method-wrapper" == Value.type "method" || Value.type "method-wrapper" == Value.type "builtin_function_or_method" || Value.type "method-wrapper" == Value.type "method-wrapper") = true by decide, if_true]
  refine W.KFB.if_so (by decide) ?_
  refine wpAny_bind (ESX.check_bound F.excBase_ValueError hC he rfl ?_)
  refine wpAny_bind (wpAny_pure (wpAny_pure ?_))
  refine ⟨Code.quiet_builtin _ (by decide +kernel), codeAny_builtin F.excBase_ValueError.initEntry ?_⟩
  rw [Around.under_plainId F.excBase_ValueError.init.plain _]
  wp_walk
  refine hq _ h.objs.size (fun b o hb ho => ?_) ?_
  · rw [Heap.get?_update_other _ _ (Ne.symm hb)]
    exact Heap.get?_push_of_some _ ho
  · rw [Heap.get?_update_self _ (Heap.get?_push_of_some _ he) rfl]
    rfl
theorem sup_init (T : SupTxt prog K mg cn C fI fs) {x t0 : Addr} {us : List Value} {s : Shared} (X : K.In s.heap) (G : s.heap.Ns mainGlobals mg) (Bt : ∃ mb, s.heap.Ns builtinsNs mb ∧ ∀ y : Str, y ≠ "__name__" → mb y = bootBuiltins y) (hlim : s.heap.NoLimit)
    (hx : s.heap.get? x = some (excO C t0)) (hnx : K.lookup x = none) (hroom : A.depth < recursionLimit) (hl : us.length = fs.length) (h0 : fs ≠ [])
    (hq : ∀ h' tk dx t1, InitEnd s.heap h' x C dx t1 (fs.zip us).reverse → R (.ok (.ret .none)) { s with heap := h', toks := tk }) :
    codeAny (model prog w) A (.call (.ref fI) ⟨.ref x :: us, []⟩) R s := by
  obtain ⟨oc, ccl, cl, od, cdd, cld, cda, cc, qual, par, scope, doc, pm, ct, an, osl, ccs, csl, vs, file, tf, text, j, p0, p1, p2, p3, p4, p5, rest, ar, lk, hcd, hset, hpar, har, lcd, hvs, hfile, hline, lcc, hk, hco, hgen, hcell, hks, hkc, hloc, hbind⟩ := T.fn
  obtain ⟨nm, q, N, bs, bm, sn, sub, ab, col, dd, k0, k1, k2, k3, k5, hC, hbm, halong⟩ := T.cls
  have hcl : clsIn K C = some { name := nm, bases := bs, mro := .ref C :: bm, ns := N, qualname := q, hasDict := true, slotNames := sn, subclasses := sub, abstract := ab, collection := col, hasDel := false } := by unfold clsIn; rw [hC] <;> rfl
  obtain ⟨mb, nB, hmb⟩ := Bt
  obtain ⟨hp, g, dr, tk, os⟩ := s
  have hb := hbind ⟨hp, g, dr, tk, os⟩ (.ref x :: us) (by rw [List.length_cons, hl])
  have hb1 : (("self" : Str) :: fs).zip (Value.ref x :: us) = (("self" : Str), Value.ref x) :: fs.zip us := rfl
  rw [hb1] at hb
  have keys : ((("self" : Str), Value.ref x) :: fs.zip us).map (·.1) = ("self" : Str) :: fs := by
    rw [List.map_cons, List.map_fst_zip (by omega)]
  have hfst : ∀ y ∈ (("self" : Str), Value.ref x) :: fs.zip us, y.1 ∈ ("self" : Str) :: fs := fun y hy => by
    rw [← keys]
    exact List.mem_map_of_mem hy
  have lookB : ∀ y ∈ (("self" : Str), Value.ref x) :: fs.zip us, ((("self" : Str), Value.ref x) :: fs.zip us).reverse.lookup y.1 = some y.2 := fun y hy => look_rev (by rw [keys]; exact T.nd) hy
  have hxC : x ≠ C := fun z => by
    rw [z, hC] at hnx
    cases hnx
  refine ks_codeAny_call_defAt hroom (X _ _ lk) rfl hlim (codeRec_of X hcd) rfl hb hcell (fun y hy => hloc _ (hfst y hy)) (fun h₁ hns hk₁ => ?_) hco hgen hk
  have X1 : K.In h₁ := X.keeps hk₁
  have ekind : ∀ y, (callEnv (ksFn "__init__" qual par (.Expr (.Call (.Attribute (.Call (.Name "super" p0) [] [] p1) "__init__" p2) [.Constant (.str text) j p3] [] p4) p5 :: rest) scope .none .none doc pm an (.ref cda) ct cc) hp.objs.size fI).kindOf y = scope.names.lookup y := fun y => rfl
  generalize henv : callEnv (ksFn "__init__" qual par (.Expr (.Call (.Attribute (.Call (.Name "super" p0) [] [] p1) "__init__" p2) [.Constant (.str text) j p3] [] p4) p5 :: rest) scope .none .none doc pm an (.ref cda) ct cc) hp.objs.size fI = env at ekind
  have es : env.scope = scope := by rw [← henv]; rfl
  have eL : env.locals = hp.objs.size := by rw [← henv]; rfl
  have eG : env.globals = mainGlobals := by rw [← henv]; rfl
  have eB : env.builtins = builtinsNs := by rw [← henv]; rfl
  have eF : env.func = some fI := by rw [← henv]; rfl
  have eC : env.code = .ref cda := by rw [← henv]; rfl
  have eCell : env.cells.lookup ("__class__" : Str) = some cc := by rw [← henv]; rfl
  have ek : env.scope.kind = .function := by rw [es]; exact hk
  refine ks_wpAt_execs_cons (ks_wpAt_Expr_any (ks_wpAt_MethodCall ?_ (sup_tree hline (by rfl))) (by unfold interactive; rw [ek]; rfl) (by rfl))
  have hC1 := X1 _ _ hC
  have hx1 := hk₁ _ _ hx
  refine ks_wpAt_super_base (by rw [ekind]; exact hks) (by rw [ekind]; exact hkc) (by decide) eF (X1 _ _ lk) rfl (by show (par.posonlyargs ++ par.args).head? = some ar; rw [hpar]; rfl) eC (X1 _ _ lcd) rfl hvs hfile T.top ?_
  refine ks_loadName_global ek (by rw [ekind]; exact hks) (loadGlobal_builtin (by rw [eG]; exact G.keeps hk₁) T.sup (by rw [eB]; exact nB.keeps hk₁) ((hmb _ (by decide)).trans (by first | boot_by_name | rfl | kernel_rfl)) ⟨rfl, ?_⟩)
  refine wpAny_loadName_free ek (by rw [ekind]; exact hkc) eCell ⟨_, X1 _ _ lcc, rfl⟩ ?_
  refine wpAny_loadName_local ek (by rw [ekind, har]; exact hloc _ List.mem_cons_self) (by rw [eL]; exact hns) (by rw [har]; exact lookB _ List.mem_cons_self) ?_
  refine ks_wpAny_isType_cls hC1 rfl ⟨rfl, ?_⟩
  refine ks_wpAny_call_super hC1 rfl hx1 rfl (fun c e => nomatch e) (looks_mroIn X1 T.cc) (fun h2 so2 k2 => ?_)
  have X2 : K.In h2 := X1.keeps k2
  have hx2 := k2 _ _ hx1
  have I2 : InstAt h2 x (excO C t0) C none := ⟨hx2, rfl, rfl, trivial⟩
  refine kxs_getMethod kxs_ValueError so2 (looks_opaque X2 T.stat) (l₀ := .ref C :: bm) (fun A Q E s k q => wpAny_bind ((looks_clsIn X2 hcl) A _ E s k (wpAny_pure q))) (ESX.drop_own C bm) X2 halong (I2.type.andThen (looks_subIn X2 T.veC)) hxC (by decide) ?_
  have he : starEach [.Constant (.str text) j p3] env = (false, eval (.Constant (.str text) j p3) env) :: starEach [] env := by rfl
  rw [he]
  have k3 : ∀ b o, h2.get? b = some o → (h2.push (kxs_mw "ValueError.__init__" x)).get? b = some o := fun b o e => Heap.get?_push_of_some _ e
  refine kxs_callWith (i := "ValueError.__init__") (x := x) (by rfl) (evalArgs_plain ?_)
  refine args_cons (wpAny_Constant_str (args_nil ?_)) (by rfl)
  refine ⟨Heap.get?_push_size _ rfl, ?_⟩
  refine call_bwV (k3 _ _ (k2 _ _ hC1)) (k3 _ _ hx2) (Heap.get?_push_size _ rfl) (by rw [sizeLine_eq]; show 1 ≤ 16777216; decide) fun h4 t4 k4 hx4 => ?_
  have X4 : K.In h4 := fun a o e => k4 a o (fun z => by rw [z, hnx] at e; cases e) (X2.keeps k3 a o e)
  have old : ∀ b o, b ≠ x → hp.get? b = some o → h4.get? b = some o := fun b o hb e => k4 b o hb (k3 b o (k2 b o (hk₁ b o e)))
  have xL : hp.objs.size ≠ x := Nat.ne_of_gt (Heap.lt_size hx)
  have n4 : h4.Ns hp.objs.size (fun y => (((("self" : Str), Value.ref x) :: fs.zip us).reverse).lookup y) := hns.at fun o e => k4 _ o xL (k3 _ o (k2 _ o e))
  have hself : env.kindOf "self" = some .local := by rw [ekind]; exact hloc _ List.mem_cons_self
  refine wpAt_of_wpAny ?_
  cases fs with
  | nil => exact absurd rfl h0
  | cons f fs =>
    cases us with
    | nil => cases hl
    | cons u us =>
      obtain ⟨q1, q2, q3, q4, r, rfl, hr⟩ := hset
      refine wpAny_execs_cons (plainObj_wpAny_Assign_Attribute ?_)
      have hf := lookB (f, u) (List.mem_cons_of_mem _ List.mem_cons_self)
      refine ESX.ldL (by rw [eL]; exact n4) hf (ESX.ldL (by rw [eL]; exact n4) (lookB _ List.mem_cons_self) ?_ ek hself) ek (by rw [ekind]; exact hloc _ (List.mem_cons_of_mem _ List.mem_cons_self)) (T.dbg f List.mem_cons_self)
      refine set_plain X4 (ox := excO C t4) (od := none) ⟨hx4, rfl, rfl, trivial⟩ T.sa ?_
      refine exc_osa X4 hx4 hcl (show refsVE (.ref C :: bm) = true from hbm) rfl (T.no f List.mem_cons_self) (fun h5 tk5 dx k5 dn dne hx5 hn5 => ?_)
      show wpAny _ _ (execs _ _) _ _ _
      have z0 : hp.objs.size < h4.objs.size := n4.lt
      have hnd : K.lookup dx = none := by
        cases e : K.lookup dx with
        | none => rfl
        | some o => exact absurd (Heap.lt_size (X4 _ _ e)) (Nat.not_lt.mpr dn)
      have hLd : hp.objs.size ≠ dx := Nat.ne_of_lt (Nat.lt_of_lt_of_le z0 dn)
      have e1 : (fun y : Str => if y = f then some u else none) = fun y => ([(f, u)] : List (Str × Value)).lookup y := put_look (acc := [])
      rw [e1] at hn5
      refine sets_run (dx := dx) ek eL (lookB _ List.mem_cons_self) hself hcl (show refsVE (.ref C :: bm) = true from hbm) rfl T.sa hnd dne.symm hLd fs us r [(f, u)] ⟨h5, g, dr, _, os⟩ hr (by simpa using hl)
        (by have := T.nz; simp only [List.length_cons, List.length_nil] at this ⊢; omega) (fun a o e => k5 a o (fun z => by rw [z, hnx] at e; cases e) (X4 a o e)) (n4.at fun o e => k5 _ o xL e)
        (fun y hy => ⟨by rw [ekind]; exact hloc _ (List.mem_cons_of_mem _ (List.mem_cons_of_mem _ hy)), T.dbg y (List.mem_cons_of_mem _ hy), T.no y (List.mem_cons_of_mem _ hy)⟩)
        (fun p hp' => lookB p (List.mem_cons_of_mem _ (List.mem_cons_of_mem _ hp'))) hx5 hn5 _ fun h6 tk6 k6 n6 => ?_
      have e2 : ((f :: fs).zip (u :: us)).reverse = (fs.zip us).reverse ++ [(f, u)] := by simp
      have xd : x ≠ dx := dne.symm
      refine hq h6 _ dx t4 ⟨fun b o hb e => k6 b o (fun z => ?_) (k5 b o hb (old b o hb e)), k6 _ _ xd hx5, Nat.le_of_lt (Nat.lt_of_lt_of_le z0 dn), dne, by rw [e2]; exact n6⟩
      have hlt := Heap.lt_size e
      rw [z] at hlt
      exact absurd hlt (Nat.not_lt.mpr (Nat.le_of_lt (Nat.lt_of_lt_of_le z0 dn)))
/-- a made one -/
structure OwnMade (h h' : Heap) (e C d : Addr) (acc : List (Str × Value)) : Prop where
  keep : ∀ b o, h.get? b = some o → h'.get? b = some o
  new : h.objs.size ≤ e
  obj : ∃ oe vs, h'.get? e = some oe ∧ oe.cls = .ref C ∧ oe.dict = some d ∧ oe.data = .fields vs ∧ vs[1]? = some .none ∧ vs[2]? = some .none
  dbig : h.objs.size ≤ d
  dne : d ≠ e
  ns : h'.Ns1 d fun y => acc.lookup y
theorem sup_made (T : SupTxt prog K mg cn C fI fs) {us : List Value} {s : Shared} (X : K.In s.heap) (G : s.heap.Ns mainGlobals mg) (Bt : ∃ mb, s.heap.Ns builtinsNs mb ∧ ∀ y : Str, y ≠ "__name__" → mb y = bootBuiltins y) (hlim : s.heap.NoLimit) (hroom : A.depth + 1 < recursionLimit) (hl : us.length = fs.length) (h0 : fs ≠ [])
    (hq : ∀ h' tk e d, OwnMade s.heap h' e C d (fs.zip us).reverse → R (.ok (.ret (.ref e))) { s with heap := h', toks := tk }) :
    codeAny (model prog w) A (.call (.ref C) ⟨us, []⟩) R s := by
  obtain ⟨nm, q, N, bs, bm, sn, sub, ab, col, dd, k0, k1, k2, k3, k5, hC, hbm, _⟩ := T.cls
  obtain ⟨mb, nB, hmb⟩ := Bt
  obtain ⟨hp, g, dr, tk, os⟩ := s
  have k : ∀ b o, hp.get? b = some o → ((hp.push (kdv_tup us)).push (excO C hp.objs.size)).get? b = some o := fun b o e => Heap.get?_push_of_some _ (Heap.get?_push_of_some _ e)
  have hget : ((hp.push (kdv_tup us)).push (excO C hp.objs.size)).get? (hp.objs.size + 1) = some (excO C hp.objs.size) := by heap_get
  have hnx : K.lookup (hp.objs.size + 1) = none := by
    cases e : K.lookup (hp.objs.size + 1) with
    | none => rfl
    | some o =>
      have z : hp.get? (hp.objs.size + 1) = some o := X _ _ e
      exact absurd (Nat.lt_of_succ_lt (Heap.lt_size z)) (Nat.lt_irrefl _)
  have hz := T.nz
  refine call_own F.excBase_ValueError (fun X => refsVE_contains X bm hbm) (X _ _ hC) (looks_findIn X T.iC) (fun self => bind_fn X self T.tI) (by rw [sizeLine_eq]; omega) ?_
  refine sup_init (s := ⟨(hp.push (kdv_tup us)).push (excO C hp.objs.size), g, dr, tk, os⟩) T (X.keeps k) (G.keeps k) ⟨mb, nB.keeps k, hmb⟩ (hlim.keeps k) hget hnx ?_ hl h0 fun h' tk' dx t1 ⟨k', hx, dn, dne, hns⟩ => ?_
  · show A.depth + 1 < recursionLimit
    exact hroom
  · have old : ∀ b o, hp.get? b = some o → h'.get? b = some o := fun b o e => k' b o (Nat.ne_of_lt (Nat.lt_succ_of_lt (Heap.lt_size e))) (k b o e)
    have z : hp.objs.size + 1 + 1 ≤ dx := by
      first
        | (simpa only [Heap.size_push] using dn)
        | exact dn
        | (have q := dn; rw [Heap.size_push, Heap.size_push] at q; exact q)
    exact ⟨rfl, hq h' tk' (hp.objs.size + 1) dx ⟨old, Nat.le_succ _, ⟨_, _, hx, rfl, rfl, rfl, rfl, rfl⟩, Nat.le_trans (Nat.le_trans (Nat.le_succ _) (Nat.le_succ _)) z, dne, hns⟩⟩
end
end KSup
-- KSup2
/-! raise C(e, ..) of such a class; the caught exception as a thing that is known -/
namespace KSup
open PySem PySem.Spec PyProof.Rows L2
/-- the same keys, alike values -/
inductive RelL : List (Str × V) → List (Str × Value) → Prop
  | nil : RelL [] []
  | cons {f : Str} {v : V} {u : Value} {a b} (r : RelV v u) (t : RelL a b) : RelL ((f, v) :: a) ((f, u) :: b)
theorem RelL.append : ∀ {a b c d}, RelL a b → RelL c d → RelL (a ++ c) (b ++ d)
  | _, _, _, _, .nil, h => h
  | _, _, _, _, .cons r t, h => .cons r (t.append h)
theorem RelL.reverse : ∀ {a b}, RelL a b → RelL a.reverse b.reverse
  | _, _, .nil => .nil
  | _, _, .cons r t => by
    rw [List.reverse_cons, List.reverse_cons]
    exact t.reverse.append (.cons r .nil)
theorem relL_zip : ∀ {fs : List Str} {vs : List V} {us : List Value}, Vals vs us → RelL (fs.zip vs) (fs.zip us)
  | [], _, _, _ => by
    rw [List.zip_nil_left, List.zip_nil_left]
    exact .nil
  | f :: fs, _, _, .nil => by
    rw [List.zip_nil_right, List.zip_nil_right]
    exact .nil
  | f :: fs, _, _, .cons r t => .cons r (relL_zip t)
theorem RelL.relO : ∀ {a b}, RelL a b → ∀ f, RelO (a.lookup f) (b.lookup f)
  | _, _, .nil, _ => True.intro
  | _, _, .cons (f := y) r t, f => by
    by_cases h : f = y
    · subst h
      simp only [List.lookup, beq_self_eq_true]
      exact r
    · have e : (f == y) = false := by simpa using h
      simp only [List.lookup, e]
      exact t.relO f
section
variable {X : Cx} {C fI : Addr} {fs : List Str}
/-- C(e, ..) -/
def tMkS (C : Addr) (fs : List Str) (ta : TA) : L2.St → Hp → XK → Prop := fun σ H Q => ta σ H fun vs H1 => vs.length = fs.length ∧ ∀ d, H1 d = none → Q (.ref C) (some d) (upd H1 d (.xd (fs.zip vs).reverse))
theorem pmk_sup {x : Str} {a : Expr} {es : List Expr} {ta : TA} {p pos : Pos} {k : Nat} (T : SupTxt X.prog X.K X.mg x C fI fs) (h0 : fs ≠ []) (hr : Room k X.A) (ha : PA X (a :: es) ta) (hg : Gl X x)
    (hdb : (x == ("__debug__" : Str)) = false := by decide) (he : starEach (a :: es) X.env = (false, eval a X.env) :: starEach es X.env := by rfl) (hpl : (backTo pos (starEach es X.env)).any (·.1) = false := by rfl) :
    L2N.PMk X (.Call (.Name x p) (a :: es) [] pos) (tMkS C fs ta) := by
  intro pins s σ H Q I h
  refine wpAny_Call_Name_kw (ld_glob I hg T.gC ?_ hdb)
  refine PySem.W.callWith_K (h₀ := X.base) I.ok.mod.kin T.kC (thn (ha.run pos pins s σ H _ I h) fun us s1 hh => ?_) he hpl
  obtain ⟨vs, H1, I1, r1, hl, q1⟩ := hh
  refine ⟨I1.kIn, ?_⟩
  have hlim := I1.nolimit
  obtain ⟨mb, nb, hmb⟩ := I1.mod.blt
  have bk := I1.bk
  have gk := I1.mod.glob.keeps bk
  have nk := nb.keeps bk
  have hlu : us.length = fs.length := by rw [← r1.length]; exact hl
  obtain ⟨hp, g, dr, tk, os⟩ := s1
  refine wpAny_call (sup_made T I1.kIn gk ⟨mb, nk, hmb⟩ hlim (by have := hr.dp; omega) hlu h0 fun h' tk' e d M => ?_)
  show L2N.MkP X pins σ Q (.ref e) ⟨h', g, dr, tk', os⟩
  obtain ⟨oe, fv, hoe, hc, hd, hdat, h1, h2⟩ := M.obj
  have hns := M.ns
  obtain ⟨G', g1, g2⟩ := restrict h' fun b => decide (b ≠ e)
  have gk' : ∀ b, b ≠ e → G'.get? b = h'.get? b := fun b hb => g1 b (decide_eq_true hb)
  have ge : G'.get? e = none := g2 e (by simp)
  have old : ∀ b o, hp.get? b = some o → G'.get? b = some o := fun b o q => (gk' b (Nat.ne_of_lt (Nat.lt_of_lt_of_le (Heap.lt_size q) M.new))).trans (M.keep b o q)
  have ob : L2.ObjOk X.prog X.w (upd H1 d (.xd (fs.zip vs).reverse)) G' d (.xd (fs.zip vs).reverse) :=
    ⟨_, hns.at (fun o q => (gk' d M.dne).trans q), fun f => (relL_zip r1).reverse.relO f⟩
  have J : L2.Inv X pins σ (upd H1 d (.xd (fs.zip vs).reverse)) ⟨G', g, dr, tk', os⟩ := I1.laid (t' := tk') old M.dbig ob
  refine ⟨e, oe, fv, ⟨G', g, dr, tk', os⟩, _, .ref C, some d, rfl, J, fun b o q => ?_, ge, hoe, ⟨hc, hd, fun vs' ev => ?_⟩, hdat, h1, ?_, rfl, I1.bare, raises_own T.exC T.tyC, q1 d (I1.hok.fresh M.dbig)⟩
  · by_cases hb : b = e
    · have q' : G'.get? b = some o := q
      rw [hb, ge] at q'; cases q'
    · exact (gk' b hb).symm.trans q
  · rw [hdat] at ev
    cases ev
    exact h2
  · rw [upd_ne (Ne.symm M.dne)]
    exact I1.hok.fresh M.new
end
end KSup
-- KHot
/-! the caught exception as a thing that is known (frozen), and what runs while it is handled -/
namespace KHot
open PySem PySem.Spec PyProof.Rows L2
/-- at a: an exception, its class, its dict; its context is None -/
def xcO (oe : Obj) : HO := .frz oe (.ext fun _ => True)
def XcAt (H : Hp) (a : Addr) (cls : Value) (d : Option Addr) : Prop := ∃ (oe : Obj) (vs : Array Value), H a = some (xcO oe) ∧ L2N.Zn cls d oe ∧ oe.data = .fields vs
theorem xcO_own {oe : Obj} {x : Addr} : xcO oe ≠ .own x := fun z => by
  unfold xcO at z
  cases z
section
variable {X : Cx} {pins : List (Addr × Obj)} {σ : L2.St} {H : Hp} {sI s' : Shared} {B : Heap}
theorem xc_ok {P : Program} {w : World} {h : Heap} {a : Addr} {oe : Obj} (e : h.get? a = some oe) : L2.ObjOk P w H h a (xcO oe) :=
  ⟨e, True.intro, ⟨oe, e⟩, fun _ _ _ _ => True.intro⟩
theorem landedT {a : Addr} {oe : Obj} (I : L2.Inv X pins σ H sI) (nb : ∀ b o, sI.heap.get? b = some o → b ∉ frs X.stack → B.get? b = some o) (st : B.StaysIn s'.heap) (up : sI.heap.UpToSlots s'.heap) (os : s'.os = sI.os) (ag : AllBare s'.gens)
    (nB : B.get? a = none) (na : H a = none) (nf : a ∉ frs X.stack) (he : s'.heap.get? a = some oe) : L2.Inv X pins σ (upd H a (xcO oe)) s' := by
  have nfx : ∀ b ∈ frs X.stack, ∀ o, sI.heap.get? b = some o → ∃ sl, s'.heap.get? b = some { o with slots := sl } := fun b hb o e => by
    obtain ⟨_, o', e', hd⟩ := I.stack.mem hb
    rw [e] at e'; cases e'
    exact up b o e hd
  have ne : ∀ b o, sI.heap.get? b = some o → b ≠ a := fun b o e z => by
    have q := nb b o e (by rw [z]; exact nf)
    rw [z, nB] at q
    cases q
  have hne : ∀ {b : Addr} {o : HO}, H b = some o → b ≠ a := fun {b o} e z => by
    rw [z, na] at e
    cases e
  have H0 : HOk X.prog X.w H s'.heap := (I.inGround nb).kept st
  have hok : HOk X.prog X.w (upd H a (xcO oe)) s'.heap := fun b o e => by
    by_cases hb : b = a
    · subst hb
      rw [upd_same] at e
      cases e
      exact xc_ok he
    · rw [upd_ne hb] at e
      exact (H0 b o e).stay (fun _ _ _ q => q) (fun c q => by rw [upd_ne (hne q)]; exact q) fun c xs q => by rw [upd_ne (hne q)]; exact q
  have J := I.call (ch := []) (h' := s'.heap) (g' := s'.gens) (t' := s'.toks) (d' := s'.drawn) (H' := upd H a (xcO oe))
    ⟨fun b o e _ hb _ => st b o (nb b o e hb), fun b o e _ hb _ => nfx b hb o e, fun b o e n _ => by rw [upd_ne (ne b o e)]; exact n, fun b o e _ => by
      by_cases hb : b ∈ frs X.stack
      · obtain ⟨sl, q⟩ := nfx b hb o e
        exact ⟨_, q⟩
      · exact ⟨o, st b o (nb b o e hb)⟩, fun b xs e => by rw [upd_ne (hne e)]; exact e, fun b o u e => by rw [upd_ne (hne e)]; exact e, fun b ps e => ⟨#[], by rw [upd_ne (hne e), e]; simp⟩⟩
    hok ag (fun _ z => nomatch z)
  obtain ⟨a1, a2, a3, a4, a5⟩ := s'
  have e5 : a5 = sI.os := os
  subst e5
  exact J
/-- into the suite, the exception known -/
theorem suiteT {s : Shared} (I : L2.Inv X pins σ H s) (a : Addr) : L2.Inv (X.suite a (X.pn ++ pins)) [] σ H s :=
  ⟨I.ok.suite _ _, I.os, I.bare, I.base, I.loc, I.cell, I.free, I.freeC, fun p hp => I.pin p (by rw [List.append_nil] at hp; exact hp), I.hok, I.len⟩
theorem unsuiteT {s : Shared} {a : Addr} {pn' : List (Addr × Obj)} (I : L2.Inv (X.suite a (X.pn ++ pins)) pn' σ H s) (ok : X.Ok) : L2.Inv X pins σ H s :=
  ⟨ok, I.os, I.bare, I.base, I.loc, I.cell, I.free, I.freeC, fun p hp => I.pin p (List.mem_append_left _ hp), I.hok, I.len⟩
end
/-- what the clause 'except x as n' wishes: the caught one stands as a known thing -/
def wAsT (K : PySem.W.Frag) (c : Value) (i : Nat) (ts : Addr → TS) (Wout : WX) (D : Ends) : WX := fun cls d σ H =>
  ∃ b, PySem.W.exmOne K cls c = some b ∧ (b = true → ∀ a oe, H a = none → XcAt (upd H a (xcO oe)) a cls d → ts a { nx := fun σ' H' => D.nx (σ'.set i none) H', rt := D.rt, bk := fun σ' H' => D.bk (σ'.set i none) H', ct := fun σ' H' => D.ct (σ'.set i none) H' } (σ.set i (some (.ref a))) (upd H a (xcO oe))) ∧
    (b = false → Wout cls d σ H)
section
variable {X : Cx} {x n : Str} {c : Value} {i : Nat} {body suite : List Stmt} {b₀ : Stmt} {np pos pos' : Pos} {tb : WX → TS} {ts : Addr → TS} {Wout : WX}
theorem ps_try_asT (hs : X.stack = X.env :: X.outer) (hf : X.env.frame = some X.env.locals) (hN : X.N.Nodup) (hi : X.N[i]? = some n) (hln : X.env.kindOf n = some .local) (hc : Names X x c) (tk : L2N.Takes X Wout)
    (hb : ∀ (W : WX) (pn : List (Addr × Obj)) (xe : Value → Shared → Prop), L2N.Takes (X.tr pn xe) W → PassesOwn (model X.prog X.w) X.A X.env xe → PSs (X.tr pn xe) body (tb W))
    (hsu : ∀ (a : Addr) (pn : List (Addr × Obj)), PSs (X.suite a pn) (b₀ :: suite) (ts a)) :
    PS X (.Try body [.ExceptHandler (some (.Name x np)) (some n) (b₀ :: suite) pos'] [] [] pos) (fun D σ H => tb (wAsT X.K c i ts Wout D) D σ H) := by
  refine ⟨fun pins s σ H D I h => ?_⟩
  have ok := I.ok
  have hfr : X.A.frames = some (X.env :: X.outer) := by rw [ok.frames, hs]
  have hloc : Loc X.env.scope n := .inl hln
  refine wpAny_Try_except ?_
  refine wpAny_mono ((hb (wAsT X.K c i ts Wout D) (X.pn ++ pins) (fun e s₁ => wpAny (model X.prog X.w) X.A (noteFrame e X.env) (fun _ s₂ => wpAny (model X.prog X.w) X.A (setFlight e none) (fun _ s₃ =>
    wpAny (model X.prog X.w) X.A (handleBy e X.env [.ExceptHandler (some (.Name x np)) (some n) (b₀ :: suite) pos']) (SP X pins D) X.xe s₃) X.xe s₂) X.xe s₁) (fun u s' xx => ?_) PassesOwn.looking).run [] s σ H D (I.toTry _) h) (fun f s1 hsp => ?_) (fun e s1 he => he)
  · -- the catch
    obtain ⟨a, B, sI, pins', σ', H', cls, d, rfl, J', nb, up, sky, na, os, ag, b, hb1, hyes, hno⟩ := xx
    have J : L2.Inv X pins σ' H' sI := J'.ofTry ok
    have sky' : Sky B (X.env :: X.outer) a (L2N.Zn cls d) X.env.locals s'.heap := by rw [← hs]; exact sky
    show wpAny (model X.prog X.w) X.A (noteFrame (.ref a) X.env) _ _ _
    refine L2N.Sky.land L2N.Zn.steady hfr hf sky' fun h3 fl3 up3 => ?_
    have J3 : L2.Inv X pins σ' H' { s' with heap := h3 } := J.landed nb fl3.1 (up.trans up3) os ag
    obtain ⟨oe3, vs3, he3, hz3, hd3⟩ := fl3.there
    have notFr : ∀ {h : Heap} {o : Obj} {vs : Array Value}, h.FunFrames B (X.env :: X.outer) → h.get? a = some o → o.data = .fields vs → a ∉ frs (X.env :: X.outer) := fun {h o vs} ff e dd hm => by
      obtain ⟨_, o', e', hnf⟩ := ff.mem hm
      rw [e] at e'; cases e'
      exact hnf _ dd
    have nfr := notFr fl3.2.2.1 he3 hd3
    have nL : a ≠ X.env.locals := fun z => nfr (List.mem_filterMap.mpr ⟨X.env, List.mem_cons_self, by rw [hf, z]⟩)
    have nF : a ∉ X.fs := fun hm => by
      obtain ⟨e, he, q⟩ := List.mem_filterMap.mp hm
      exact nfr (List.mem_filterMap.mpr ⟨e, List.mem_cons_of_mem _ he, q⟩)
    have S3 := J3.suite he3 hd3 na nL nF
    refine wpAny_handleBy_cons (codeAny_handlers_test ?_) (by intro q; cases q)
    have LT : PySem.W.Looks (model X.prog X.w) h3 (typeOf (.ref a)) cls := fun A Q E s k q => wpAny_typeOf_ref (k _ _ he3) (by rw [hz3.1]; exact q)
    have LM := PySem.W.exm_one (M := model X.prog X.w) (J3.kIn) LT hb1
    have test : ∀ {Q : Value → Shared → Prop} {E : Value → Shared → Prop}, Q c { s' with heap := h3 } → wpAny (model X.prog X.w) (X.A.mark (some (.ref a))) (eval (.Name x np) X.env) Q E { s' with heap := h3 } := fun {Q E} q => by
      obtain ⟨hg, hdbg, hm | ⟨hm, hv, hnn⟩⟩ := hc
      · exact ld_glob (X := X.suite a ((a, oe3) :: (X.pn ++ pins))) S3 hg hm q hdbg
      · exact ld_blt (X := X.suite a ((a, oe3) :: (X.pn ++ pins))) S3 hg hm hv q hnn hdbg
    refine test (LM.here ?_)
    cases b with
    | true =>
      refine codeAny_handlers_suite_as ?_
      refine HandSPX.lands_againZ fl3 fun h4 fl4 up4 => ?_
      obtain ⟨oe4, vs4, he4, hz4, hd4⟩ := fl4.there
      have J4 : L2.Inv X pins σ' (upd H' a (xcO oe4)) { s' with heap := h4 } := landedT J nb fl4.1 ((up.trans up3).trans up4) os ag fl4.2.1 na (by rw [hs]; exact nfr) he4
      have S4 := suiteT J4 a
      refine store_ok (X := X.suite a (X.pn ++ pins)) (v := .ref a) S4 hN hi hloc rfl (fun s5 S5 => ?_) (.inr hln)
      refine wpAny_mono ((hsu a (X.pn ++ pins)).run [] s5 _ (upd H' a (xcO oe4)) _ S5 (hyes rfl a oe4 na ⟨oe4, vs4, upd_same, hz4, hd4⟩)) (fun f s6 hsp => ?_) (fun _ _ z => False.elim z)
      have end_ : ∀ {σ6 : L2.St} {H6 : Hp} {Q : Shared → Prop}, L2.Inv (X.suite a (X.pn ++ pins)) [] σ6 H6 s6 → (∀ s7, L2.Inv X pins (σ6.set i none) H6 s7 → Q s7) →
          wpAny (model X.prog X.w) X.A (do bindName X.env n .none; unbindBehindTheSuite X.env n pos') (fun _ s7 => Q s7) X.xe s6 := fun {σ6 H6 Q} S6 hq => gone_ok (unsuiteT S6 ok) hN hi hln hq
      cases f with
      | next =>
        obtain ⟨σ6, H6, S6, q6⟩ := hsp
        exact end_ S6 fun s7 J7 => ⟨_, _, J7, q6⟩
      | brk =>
        obtain ⟨σ6, H6, S6, q6⟩ := hsp
        exact end_ S6 fun s7 J7 => ⟨_, _, J7, q6⟩
      | cont =>
        obtain ⟨σ6, H6, S6, q6⟩ := hsp
        exact end_ S6 fun s7 J7 => ⟨_, _, J7, q6⟩
      | ret u =>
        obtain ⟨v6, σ6, H6, S6, r6, q6⟩ := hsp
        exact end_ S6 fun s7 J7 => ⟨_, _, _, J7, r6, q6⟩
    | false =>
      show wpAny _ X.A (handleBy (.ref a) X.env []) _ _ _
      refine wpAny_handleBy_nil ?_
      obtain ⟨k1, k2, k3, oe, vs, T, oT, ts', he, hz, hd, h1, hr⟩ := id fl3
      unfold PySem.passOn
      refine wpAny_bind (wpAny_field he hd h1 ?_)
      rw [if_neg (show ¬ ((Value.ref T == Value.none) = true) from by simp)]
      have fin : wpAny (model X.prog X.w) X.A (setFlight (.ref a) X.env.frame) (fun _ s4 => wpAny (model X.prog X.w) X.A (throw (.ref a) : Sem Flow) (SP X pins D) X.xe s4) X.xe { s' with heap := h3 } := by
        rw [hf]
        refine HandSPX.setFlight_upZ fl3 fun h4 hh4 up4 => wpAny_throw (tk _ _ ?_)
        exact ⟨a, B, sI, pins, σ', H', cls, d, rfl, J, nb, (up.trans up3).trans up4, .inr (.inr (by rw [hs]; exact hh4)), na, os, ag, hno rfl⟩
      first
        | exact wpAny_bind (wpAny_pure (wpAny_bind fin))
        | exact wpAny_bind fin
  · cases f with
    | next =>
      obtain ⟨σ', H', J', q⟩ := hsp
      exact wpAny_execs_nil ⟨σ', H', J'.ofTry ok, q⟩
    | brk =>
      obtain ⟨σ', H', J', q⟩ := hsp
      exact ⟨σ', H', J'.ofTry ok, q⟩
    | cont =>
      obtain ⟨σ', H', J', q⟩ := hsp
      exact ⟨σ', H', J'.ofTry ok, q⟩
    | ret u =>
      obtain ⟨v, σ', H', J', r, q⟩ := hsp
      exact ⟨v, σ', H', J'.ofTry ok, r, q⟩
end
end KHot
-- KHot2
/-! defs that run while an exception is handled which is known -/
namespace KHot
open PySem PySem.Spec PyProof.Rows L2 L2H
/-- the handled one stands as a known thing -/
def HotO (A : Around) (H : Hp) : Prop := ∃ (a : Addr) (cls : Value) (d : Option Addr), A.handled = some (.ref a) ∧ XcAt H a cls d
def HotT (X : Cx) : Prop := HotO X.A X.H_0
theorem HotO.at {P : Program} {w : World} {A : Around} {H : Hp} {h : Heap} (c : HotO A H) (k : HOk P w H h) : ∃ x1, HotX.HotAt A x1 h := by
  obtain ⟨a, cls, d, hh, oe, vs, e, z, hd⟩ := c
  exact ⟨a, hh, oe, vs, (k a _ e).1, hd, z.2.2 vs hd⟩
theorem HotO.keep {A : Around} {fs ex : List Addr} {H H' : Hp} {h h' : Heap} (c : HotO A H) (u : Un fs ex H H' h h') : HotO A H' := by
  obtain ⟨a, cls, d, hh, oe, vs, e, z, hd⟩ := c
  exact ⟨a, cls, d, hh, oe, vs, u.frzs _ _ _ e, z, hd⟩
section
variable {X : Cx} {pins : List (Addr × Obj)} {σ : L2.St} {H : Hp} {s : Shared}
theorem HotT.now (c : HotT X) (I : L2.Inv X pins σ H s) : HotO X.A H := c.keep I.base
theorem HotT.at (c : HotT X) (I : L2.Inv X pins σ H s) : ∃ x1, HotX.HotAt X.A x1 s.heap := (c.now I).at I.hok
end
structure FnT (P : Program) (w : World) (K : PySem.W.Frag) (mg : Str → Option Value) (base : Heap) (k : Nat) (f : Addr) (fd : FuncData) (ps : List Str) (sp : Sp) : Prop where
  len : ∀ vs H Q E, sp vs H Q E → vs.length = ps.length
  run : ∀ (A : Around) (outer : List Env) (s : Shared) (H : Hp) (args : Args) (us : List Value) (vs : List V) (Q : VK) (E : XK), RoomH k A → HotO A H → Env0 P w K mg base A outer s H → BindsTo s fd args (ps.zip us) → Vals vs us → sp vs H Q E →
    codeAny (model P w) A (.call (.ref f) args) (CR CX0 outer P w H s Q E) s
theorem FnT.mono {P : Program} {w : World} {K : PySem.W.Frag} {mg : Str → Option Value} {base : Heap} {j k : Nat} {f : Addr} {fd : FuncData} {ps : List Str} {sp : Sp} (F : FnT P w K mg base j f fd ps sp) (h : j ≤ k) : FnT P w K mg base k f fd ps sp :=
  ⟨F.len, fun A outer s H args us vs Q E hr => F.run A outer s H args us vs Q E (hr.mono h)⟩
abbrev cxT (P : Program) (w : World) (K : PySem.W.Frag) (mg : Str → Option Value) (base : Heap) (N : List Str) (qual : Str) (scope : Scope) (f : Addr) (cd : Value) (A : Around) (outer : List Env) (s : Shared) (H : Hp) (E : XK) : Cx :=
  { cxOf CX0 P w K mg base N qual scope f cd A outer s H E with calm := false }
theorem cxT_hot {P : Program} {w : World} {K : PySem.W.Frag} {mg : Str → Option Value} {base : Heap} {N : List Str} {qual : Str} {scope : Scope} {f : Addr} {cd : Value} {A : Around} {outer : List Env} {s : Shared} {H : Hp} {E : XK} (c : HotO A H) : HotT (cxT P w K mg base N qual scope f cd A outer s H E) := c
/-- not calm: all else as it is -/
theorem uncalm {X : Cx} {pins : List (Addr × Obj)} {σ : L2.St} {H : Hp} {s : Shared} (A : Around) (xe : Value → Shared → Prop) (hf : A.frames = X.A.frames) (I : L2.Inv X pins σ H s) : L2.Inv { X with A := A, calm := false, xe := xe } pins σ H s :=
  have ok := I.ok
  ⟨⟨ok.mod, ok.kind, ok.glob, ok.blt, ok.above, ok.inj, ok.has, ok.cab, (fun z => Bool.noConfusion (show false = true from z)), hf.trans ok.frames, ok.stk, ok.exf, ok.bs, ok.bsz, ok.noex, ok.exfs, ok.funs, ok.frf⟩, I.os, I.bare, I.base, I.loc, I.cell, I.free, I.freeC, I.pin, I.hok, I.len⟩
section
variable {P : Program} {w : World} {K : PySem.W.Frag} {mg : Str → Option Value} {base : Heap}
/-- the rule for a def's body -/
theorem okT {x qual : Str} {st : Stmt} {f : Addr} {fd : FuncData} {N ps : List Str} {k : Nat} {sp : Sp} (F : Fun K x qual st f fd) (S : FnScope N ps (defScope st)) (len : ∀ vs H Q E, sp vs H Q E → vs.length = ps.length)
    (hbody : ∀ (cdv : Value) (A : Around) (outer : List Env) (s : Shared) (H : Hp) (vs : List V) (Q : VK) (E : XK), RoomH k (A.deeper (envOfC qual (defScope st) s.heap.objs.size f cdv)) → HotT (cxT P w K mg base N qual (defScope st) f cdv A outer s H E) → sp vs H Q E →
      ∃ t, PSs (cxT P w K mg base N qual (defScope st) f cdv A outer s H E).nox (defBody st) t ∧ t { nx := fun _ H' => Q .non H', rt := Q } (start N vs) H) : FnT P w K mg base (k + 1) f fd ps sp := by
  obtain ⟨oc, od, kV, doc, pm, an, cdv, ct, osl, rfl, lk, hcd⟩ := F.ex
  refine ⟨len, fun A outer s H args us vs Q E hr hot e0 hb r hsp => ?_⟩
  have hl := len _ _ _ _ hsp
  have KX : K.In s.heap := e0.mod.kin.keeps fun b o e => (e0.bs b o e).1
  have lim : s.heap.NoLimit := e0.mod.nolimit.keeps fun b o e => (e0.bs b o e).1
  refine codeAny_call_function hr.depth (KX _ _ lk) rfl S.co S.gen rfl (PySem.W.codeRec_of KX hcd) (hb _ _ _ _ ?_)
  refine wpAny_newFunctionEnv_cells S.kind (fun y hy => ?_) fun env he s1 z => ?_
  · rcases S.par y.1 (List.of_mem_zip hy).1 with q | q
    · exact .inl q
    · exact .inr ⟨q, PySem.W.cellsFrom_some _ _ _ (.inl q)⟩
  subst he
  refine ⟨lim.keeps z.toInCall.keep, codeAny_func ?_⟩
  obtain ⟨t, ht, hq⟩ := hbody cdv A outer s H vs Q E (hr.deeper _) hot hsp
  have I0 := inv_start (CX := CX0) (E := E) S (A := { A with handled := none }) rfl ⟨e0.frames, e0.mod, e0.bs, e0.bsz, e0.funs, e0.frf, e0.hok, e0.bare⟩ hl r z
  have I : L2.Inv (cxT P w K mg base N qual (defScope st) f cdv A outer s H E) [] (L2.start N vs) H s1 := uncalm (X := cxOf CX0 P w K mg base N qual (defScope st) f cdv { A with handled := none } outer s H E) (A.deeper (envOfC qual (defScope st) s.heap.objs.size f cdv)) _ (by rfl) I0
  refine wpAny_mono (ht.nox.run [] s1 (L2.start N vs) H _ I hq) (fun fl s' hs => ?_) fun e s' hs => hs
  have fin : ∀ {σ' : L2.St} {H' : Hp} {v : V} {u : Value}, L2.Inv (cxT P w K mg base N qual (defScope st) f cdv A outer s H E) [] σ' H' s' → RelV v u → Q v H' → CE outer P w H s Q u s' :=
    fun {σ' H' v u} J rv q => ⟨v, H', J.os, J.bare, J.base, J.hok, rv, q⟩
  cases fl with
  | ret u =>
    obtain ⟨v, σ', H', J, rv, q⟩ := hs
    exact fin J rv q
  | next =>
    obtain ⟨σ', H', J, q⟩ := hs
    exact fin (v := V.non) (u := Value.none) J rfl q
  | brk =>
    obtain ⟨_, _, _, q⟩ := hs
    exact False.elim q
  | cont =>
    obtain ⟨_, _, _, q⟩ := hs
    exact False.elim q
end
/-! calls -/
section
variable {X : Cx} {k : Nat} {f : Addr} {fd : FuncData} {ps : List Str} {sp : Sp} {x : Str} {q pos : Pos} {e : Expr} {es : List Expr} {t : TA}
theorem run_fnT {pins : List (Addr × Obj)} {σ : L2.St} {H : Hp} {s : Shared} {Q : VK} {us : List Value} {vs : List V} (F : FnT X.prog X.w X.K X.mg X.base k f fd ps sp) (hr : RoomH k X.A) (hc : HotO X.A H) (hb : Binds X.K fd ps [])
    (I : L2.Inv X pins σ H s) (r : Vals vs us) (h : sp vs H Q E0) : wpAny (model X.prog X.w) X.A (call (.ref f) us) (EP X pins σ Q) X.xe s := by
  have hl : us.length = ps.length := by rw [← r.length]; exact F.len _ _ _ _ h
  have b := hb s us I.kIn (by rw [List.append_nil]; exact hl)
  rw [List.append_nil] at b
  refine wpAny_call (codeAny_mono (F.run X.A X.stack s H ⟨us, []⟩ us vs Q E0 hr hc I.env0 b r h) fun r s' hq => ?_)
  cases r with
  | error e => exact False.elim hq
  | ok fl =>
    cases fl with
    | ret u => exact I.after hq
    | next => exact False.elim hq
    | brk => exact False.elim hq
    | cont => exact False.elim hq
/-- within a def that runs hot -/
theorem pe_callT (F : FnT X.prog X.w X.K X.mg X.base k f fd ps sp) (hr : RoomH k X.A) (hc : HotT X) (hg : Gl X x) (hm : X.mg x = some (.ref f)) (hk : PySem.W.keepIn X.K (.ref f) = true) (hb : Binds X.K fd ps [])
    (ha : PA X (e :: es) t) (hdb : (x == ("__debug__" : Str)) = false := by decide) (he : starEach (e :: es) X.env = (false, eval e X.env) :: starEach es X.env := by rfl) (hpl : (backTo pos (starEach es X.env)).any (·.1) = false := by rfl) :
    PE X (.Call (.Name x q) (e :: es) [] pos) (tCall sp [] E0 t) := by
  refine ⟨fun pins s σ H Q I h => ?_⟩
  refine wpAny_Call_Name_kw (ld_glob I hg hm ?_ hdb)
  refine PySem.W.callWith_K (h₀ := X.base) I.ok.mod.kin hk (thn (ha.run pos pins s σ H _ I h) fun us s1 ⟨vs, H1, I1, r, q⟩ => ⟨I1.kIn, ?_⟩) he hpl
  exact run_fnT F hr (hc.now I1) hb I1 r (by have q2 : sp (vs ++ []) H1 Q E0 := q; rwa [List.append_nil] at q2)
/-- in the suite -/
def tCallTs (a : Addr) (sp : Sp) (t : TA) : TE := fun σ H Q => t σ H fun vs H1 => (∃ cls d, XcAt H1 a cls d) ∧ sp vs H1 Q E0
theorem pe_callTs {a : Addr} (F : FnT X.prog X.w X.K X.mg X.base k f fd ps sp) (hr : RoomH k X.A) (hh : X.A.handled = some (.ref a)) (hg : Gl X x) (hm : X.mg x = some (.ref f)) (hk : PySem.W.keepIn X.K (.ref f) = true) (hb : Binds X.K fd ps [])
    (ha : PA X (e :: es) t) (hdb : (x == ("__debug__" : Str)) = false := by decide) (he : starEach (e :: es) X.env = (false, eval e X.env) :: starEach es X.env := by rfl) (hpl : (backTo pos (starEach es X.env)).any (·.1) = false := by rfl) :
    PE X (.Call (.Name x q) (e :: es) [] pos) (tCallTs a sp t) := by
  refine ⟨fun pins s σ H Q I h => ?_⟩
  refine wpAny_Call_Name_kw (ld_glob I hg hm ?_ hdb)
  refine PySem.W.callWith_K (h₀ := X.base) I.ok.mod.kin hk (thn (ha.run pos pins s σ H _ I h) fun us s1 ⟨vs, H1, I1, r, ⟨cls, d, hx⟩, q⟩ => ⟨I1.kIn, ?_⟩) he hpl
  exact run_fnT F hr ⟨a, cls, d, hh, hx⟩ hb I1 r q
end
end KHot
-- KHot3
/-! the known exception asked: isinstance, its fields -/
namespace KHot
open PySem PySem.Spec PyProof.Rows L2
section
variable {X : Cx}
theorem zn_inst {s : Shared} {pins : List (Addr × Obj)} {σ : L2.St} {H : Hp} {a D : Addr} {d : Option Addr} (I : L2.Inv X pins σ H s) (h : XcAt H a (.ref D) d) : ∃ oe, s.heap.get? a = some oe ∧ oe.cls = .ref D ∧ PySem.W.notCls oe = true ∧ oe.dict = d := by
  obtain ⟨oe, vs, e, z, hd⟩ := h
  exact ⟨oe, (I.hok a _ e).1, z.1, by unfold PySem.W.notCls; rw [hd] <;> rfl, z.2.1⟩
/-- isinstance(e, c), e the known exception, its dict dd known -/
def rIsX (K : PySem.W.Frag) : List V → Hp → VK → Prop := fun xs H Q => ∃ (a D dd : Addr) (fs : List (Str × V)) (c : V) (cv : Value) (b : Bool), xs = [.ref a, c] ∧ XcAt H a (.ref D) (some dd) ∧ H dd = some (.xd fs) ∧ ExcC K D ∧ (∀ u, RelV c u → u = cv) ∧ PySem.W.kitOne K (.ref D) cv = some b ∧ Q (.bl b) H
theorem call_isX : CallR X (.builtin "isinstance") (rIsX X.K) := by
  intro pins s σ H xs us Q I r h
  obtain ⟨a, D, dd, fs, c, cv, b, rfl, hx, hxd, C, hcv, e, q⟩ := h
  cases r with
  | cons rx rr =>
    cases rr with
    | cons rt rr =>
      cases rr
      cases rx
      have ec := hcv _ rt
      subst ec
      obtain ⟨oe, h1, h2, h3, h4⟩ := zn_inst I hx
      obtain ⟨mA, ⟨od, es, ep, ho, _⟩, _⟩ : L2.ObjOk X.prog X.w H s.heap dd (.xd fs) := I.hok dd _ hxd
      have J : PySem.W.InstAt s.heap a oe D (some od) := ⟨h1, h2, h3, by rw [h4]; exact ho⟩
      have hcl : (PySem.W.clsIn X.K D).isSome = true := by
        obtain ⟨cd, hc, _⟩ := PySem.W.any_some C.hd
        rw [hc]
        rfl
      exact PySem.W.kia_one (PySem.W.kitx_exc hcl C.hg C.hk C.hs C.ha C.hn C.ht C.hm) I.kIn J e (fun z => nomatch z) fun tk => ⟨.bl b, H, I.kept (t' := tk) fun _ _ z => z, rfl, q⟩
/-- e.f -/
def tXa (K : PySem.W.Frag) (f : Str) (te : TE) : TE := fun σ H Q => te σ H fun x H1 => ∃ (a C dd : Addr) (fs : List (Str × V)) (v : V), x = .ref a ∧ XcAt H1 a (.ref C) (some dd) ∧ H1 dd = some (.xd fs) ∧ fs.lookup f = some v ∧ XfC K C ∧ PySem.W.findIn K (.ref C) f = some none ∧ Q v H1
theorem pe_xa {e : Expr} {te : TE} {pos : Pos} {n : Str} (he : PE X e te) (hb : attributeBase e n X.env (eval e X.env) = eval e X.env := by rfl) : PE X (.Attribute e n pos) (tXa X.K n te) := by
  refine ⟨fun pins s σ H Q I h => attr_of hb (thn (he.run pins s σ H _ I h) fun u s1 hh => ?_)⟩
  obtain ⟨y, H1, I1, ry, a, C, dd, fs, v, rfl, hx, ea, l, T, hno, q⟩ := hh
  obtain rfl : u = Value.ref a := ry
  obtain ⟨oe, h1, h2, h3, h4⟩ := zn_inst I1 hx
  obtain ⟨mA, hns, hr⟩ : L2.ObjOk X.prog X.w H1 s1.heap dd (.xd fs) := I1.hok dd _ ea
  obtain ⟨od, ho, hl⟩ := lookIn_ns hns
  obtain ⟨u, hu, ru⟩ := RelO.some_of (v := v) (o := mA n) (by rw [← l]; exact hr n)
  exact HandSPX.exc_get I1.kIn ⟨h1, h2, h3, by rw [h4]; exact ho⟩ T.ga T.gg T.exC (PySem.W.findObj_own T.hdC hno rfl (by rw [hl, hu])) (handed_of ru) ⟨v, H1, I1.tok _, ru, q⟩
end
end KHot
-- KHot4
/-! [elt for x in range(n) if test] while an exception is handled that is known -/
namespace KHot
open PySem PySem.Spec PyProof.Rows L2 L2H
section
variable {X : Cx} {pins : List (Addr × Obj)} {σ : L2.St} {H : Hp} {s : Shared}
/-- the i-th turn of a range's iterator, at n -/
def RgAt (it : Addr) (n i : Nat) (h : Heap) : Prop := IsRangeIter h it ((i : Nat) : Int) ((n : Int) - (i : Nat)) 1
theorem RgAt.keep {it : Addr} {n i : Nat} {h h' : Heap} (r : RgAt it n i h) (k : ∀ o, h.get? it = some o → h'.get? it = some o) : RgAt it n i h' := k _ r
theorem rg_item {it : Addr} {n i : Nat} {tg : Expr} {E : Value → Shared → Prop} (I : L2.Inv X pins σ H s) (f : FpOk X pins H it) (st : RgAt it n i s.heap) (hi : i < n) :
    wpAny (model X.prog X.w) X.A (pyNext (.ref it)) (fun r s1 => ∃ u, r = some u ∧ RelV (.int (i : Int)) u ∧
      wpAny (model X.prog X.w) X.A (letOwnedTupleGo tg (.ref it) u) (fun _ s2 => L2.Inv X pins σ H s2 ∧ RgAt it n (i + 1) s2.heap) E s1) E s := by
  obtain ⟨f0, f1, f2, f3, f4, f5⟩ := f
  refine wpAny_pyNext_range_item st (by omega) fun h' st' sb => ⟨_, rfl, ⟨s.toks, rfl⟩, ?_⟩
  have e1 : ((i : Nat) : Int) + 1 = ((i + 1 : Nat) : Int) := by omega
  have e2 : (n : Int) - ((i : Nat) : Int) - 1 = (n : Int) - ((i + 1 : Nat) : Int) := by omega
  rw [e1, e2] at st'
  have J : L2.Inv X pins σ H { s with heap := h', toks := s.toks + 1 } := I.turned (fun b o hb e => (sb.2 b hb).trans e) f0 f1 f3 f4 f5
  exact go_of (s := { s with heap := h', toks := s.toks + 1 }) (n := "range_iterator") st' rfl rfl (by decide) ⟨J, st'⟩
theorem rg_done {it : Addr} {n i : Nat} {E : Value → Shared → Prop} (c : HotT X) (I : L2.Inv X pins σ H s) (f : FpOk X pins H it) (st : RgAt it n i s.heap) (hi : n ≤ i) :
    wpAny (model X.prog X.w) X.A (pyNext (.ref it)) (fun r s1 => r = none ∧ L2.Inv X pins σ H s1) E s := by
  obtain ⟨f0, f1, f2, f3, f4, f5⟩ := f
  obtain ⟨x1, hot⟩ := c.at I
  exact HotX.pyNext_range_end_hot hot st (by omega) fun h' eb => ⟨rfl, I.turned (t' := s.toks) (fun b o _ e => eb b o e) f0 f1 f3 f4 f5⟩
/-- range(a)'s iterator -/
theorem rg_start {a : Expr} {ta : TA} {p pos : Pos} {R : It → Hp → Prop} (hg : Gl X "range") (hm : X.mg "range" = none) (ha : PA X [a] ta) (I : L2.Inv X pins σ H s) (h : iRng1 ta σ H R)
    (hs : starEach [a] X.env = [(false, eval a X.env)] := by rfl) :
    wpAny (model X.prog X.w) X.A (eval (.Call (.Name "range" p) [a] [] pos) X.env) (fun v s1 => wpAny (model X.prog X.w) X.A (pyIter v) (fun itv s2 => ∃ (it : Addr) (n : Nat) (H1 : Hp), itv = .ref it ∧ L2.Inv X pins σ H1 s2 ∧ RgAt it n 0 s2.heap ∧ FpOk X pins H1 it ∧ R (Itr 0 n) H1) X.xe s1) X.xe s := by
  refine Call_ (ld_blt I hg hm boot_range (PyProof.Rows.callWith_type1 (thn (ha.run pos pins s σ H _ I h) fun us s1 ⟨vs, H1, I1, r1, j, e, hj, hn, q⟩ => ?_) hs rfl))
  subst e
  cases r1 with
  | cons r rr =>
    cases rr
    obtain ⟨t, rfl⟩ := r
    refine call_range_1 ?_
    refine wpAny_pyIter_range (IsRange.new ..) (small_one (by omega) (by omega) (by omega) (by omega)) ?_
    have z : (Builtin.Range.rangeSize 0 j 1 : Int) = (j.toNat : Int) - ((0 : Nat) : Int) := by
      rw [rangeSize_one]
      split <;> omega
    generalize hq : s1.heap.push _ = h1
    have k1 : ∀ b o, s1.heap.get? b = some o → h1.get? b = some o := fun b o e => by rw [← hq]; exact Heap.get?_push_of_some _ e
    have I2 : L2.Inv X pins σ H1 { s1 with heap := h1 } := I1.kept (t' := s1.toks) k1
    refine ⟨h1.objs.size, j.toNat, H1, rfl, ?_, ?_, I2.fpOk (Nat.le_refl _) (I2.hok.fresh (Nat.le_refl _)), q⟩
    · exact I2.kept fun b o e => Heap.get?_push_of_some _ e
    · unfold RgAt
      rw [← z]
      exact Heap.get?_push_size _ rfl
/-- the def's own names, in a block that begins -/
theorem hot_blk {s : Shared} {scope : Scope} {ce : Env} {fp : List Addr} (c : HotO X.A H) : HotT (X.blk s H scope ce fp) := c
theorem lcT_core {elt tg a : Expr} {ifs : List Expr} {scope : Scope} {own : List (Str × Nat)} {pos pos' p q : Pos} {ta : TA} {g : TG} {tt : TT} {te : TE} {use : Option (Value → Sem Unit)} {Qf : Value → Shared → Prop} {Q : VK}
    (hot : HotT X) (hN : X.N.Nodup) (I : L2.Inv X pins σ H s) (hgr : Gl X "range") (hmr : X.mg "range" = none) (ha : PA X [a] ta) (ok : BlkOk X.N X.env.scope scope own)
    (hb : ∀ (s : Shared) (H : Hp) (C : Addr) (cl : List (Str × Addr)) (fp : List Addr), HotT (X.blk s H scope (compEnvC scope cl C X.env) fp) → PG (X.blk s H scope (compEnvC scope cl C X.env) fp) tg g ∧ PTs (X.blk s H scope (compEnvC scope cl C X.env) fp) ifs tt ∧ PE (X.blk s H scope (compEnvC scope cl C X.env) fp) elt te)
    (hst : starEach [a] X.env = [(false, eval a X.env)]) (hs : ∀ x, foldedSetIterable (.Call (.Name "range" p) [a] [] q) X.env x = pure x) (h : tLc (iRng1 ta) g tt te (own.map (·.2)) σ H Q)
    (fin : ∀ D C s' m H', L2.Inv X pins σ H' s' → Q (.ref D) H' → s'.heap.Ns C m → FpOk X pins H' C → compPost (model X.prog X.w) X.A X.xe use Qf (.ref D) C (.ok .next) s') :
    wpAny (model X.prog X.w) X.A (comprehension (.ListComp elt [⟨tg, .Call (.Name "range" p) [a] [] q, ifs, 0⟩] scope pos) scope X.env pos' (newList []) false (eval (.Call (.Name "range" p) [a] [] q) X.env) use) Qf X.xe s := by
  have hfr : ∀ y ∈ scope.names, y.2 = .free → ∃ c, X.env.cells.lookup y.1 = some c := fun y hy e => I.ok.has _ (ok.free y hy e)
  refine wpAny_comprehension_free (use := use) rfl hs (closure_ok hfr) ok.kind (fun y hy e => by rw [ok.uniq y hy, e]) (thn (rg_start hgr hmr ha I h hst) fun v0 s1 h1 => thn h1 fun itv s2 h2 => ?_)
  obtain ⟨it, n, H2, e, I2, r2, f2, q2⟩ := h2
  subst e
  refine wpAny_newObj_type (newEnv_comp ?_) (by show 0 ≤ sizeLine; decide)
  -- the new list, at D
  obtain ⟨D, hD⟩ : ∃ D, s2.heap.objs.size = D := ⟨_, rfl⟩
  rw [hD]
  obtain ⟨W, ⟨m0, w0⟩, turn⟩ := q2 D (I2.hok.fresh (Nat.le_of_eq hD))
  have itD : it < D := by rw [← hD]; exact Heap.lt_size r2
  obtain ⟨s3, hs3⟩ : ∃ s3 : Shared, ({ s2 with heap := s2.heap.push { cls := .type "list", data := .seq ([] : List Value).toArray } } : Shared) = s3 := ⟨_, rfl⟩
  have h3 : s3.heap = s2.heap.push { cls := .type "list", data := .seq ([] : List Value).toArray } := by rw [← hs3]
  have I3 : L2.Inv X pins σ (upd H2 D (.lst [])) s3 := by
    rw [← hs3, ← hD]
    exact I2.laid (t' := s2.toks) (fun b o e => Heap.get?_push_of_some _ e) (Nat.le_refl _) ⟨Nat.zero_le _, [], 0, .nil, Heap.get?_push_size _ rfl⟩
  have f3 : FpOk X pins (upd H2 D (.lst [])) it := ⟨by rw [upd_ne (Nat.ne_of_lt itD)]; exact f2.1, f2.2⟩
  have sz3 : it < s3.heap.objs.size := by rw [h3, Heap.size_push, hD]; exact Nat.lt_succ_of_lt itD
  have f3' : ∀ b ∈ [it], FpOk X pins (upd H2 D (.lst [])) b ∧ b < s3.heap.objs.size := fun b hb => by
    rw [List.mem_singleton.mp hb]
    exact ⟨f3, sz3⟩
  have I4 := block_start I3 ok hN f3'
  obtain ⟨pg, pt, pe⟩ := hb s3 (upd H2 D (.lst [])) s3.heap.objs.size (cellsFrom (s3.heap.objs.size + 1) scope.names (cloFrom X.env.cells scope.names [])) [it] (hot_blk (hot.now I3))
  have hotB : HotT (X.blk s3 (upd H2 D (.lst [])) scope (compEnvC scope (cellsFrom (s3.heap.objs.size + 1) scope.names (cloFrom X.env.cells scope.names [])) s3.heap.objs.size X.env) [it]) := hot_blk (hot.now I3)
  have r4 : RgAt it n 0 (pushCells (s3.heap.push { cls := .type "dict", data := .dict #[] }) scope.names) := r2.keep fun o e => pushCells_keeps _ _ _ _ (Heap.get?_push_of_some _ (by rw [h3]; exact Heap.get?_push_of_some _ e))
  rw [hs3]
  show codeAny _ _ (.compStart (.ListComp elt [⟨tg, .Call (.Name "range" p) [a] [] q, ifs, 0⟩] scope pos) 0 (.ref it) (.ref D) (compEnvC scope (cellsFrom (s3.heap.objs.size + 1) scope.names (cloFrom X.env.cells scope.names [])) s3.heap.objs.size X.env)) (compPost (model X.prog X.w) X.A X.xe use Qf (.ref D) s3.heap.objs.size) { s3 with heap := pushCells (s3.heap.push { cls := .type "dict", data := .dict #[] }) scope.names }
  generalize hce : compEnvC scope (cellsFrom (s3.heap.objs.size + 1) scope.names (cloFrom X.env.cells scope.names [])) s3.heap.objs.size X.env = ce at I4 pg pt pe hotB ⊢
  have cL : ce.locals = s3.heap.objs.size := by rw [← hce]; rfl
  generalize upd H2 D (.lst []) = H3 at I3 I4 pg pt pe w0 f3 f3' hotB
  obtain ⟨s4, hs4⟩ : ∃ s4 : Shared, ({ s3 with heap := pushCells (s3.heap.push { cls := .type "dict", data := .dict #[] }) scope.names } : Shared) = s4 := ⟨_, rfl⟩
  have r4' : RgAt it n 0 s4.heap := by rw [← hs4]; exact r4
  rw [hs4] at I4 ⊢
  have stat : ∀ {σ' : L2.St} {H' : Hp} {s' : Shared}, L2.Inv (X.blk s3 H3 scope ce [it]) [] σ' H' s' → H' it = none → ∀ b ∈ [it], FpOk (X.blk s3 H3 scope ce [it]) [] H' b := fun {σ' H' s'} I' hn b hb => by
    have hx := I'.ok.exf b hb
    have eb := List.mem_singleton.mp hb
    exact ⟨by rw [eb]; exact hn, hx.1, I'.ok.exfs b hb, .inl hb, fun x c e => hx.2 x c e, fun p hp => by cases hp⟩
  have obj : ∀ {j : Nat} {h : Heap}, RgAt it n j h → ∀ b ∈ [it], ∃ o, h.get? b = some o ∧ ∀ v, o.data ≠ .cell v := fun {j h} r b hb => by
    rw [List.mem_singleton.mp hb]
    exact ⟨_, r, fun v z => nomatch z⟩
  have one : it ∈ [it] := List.mem_singleton.mpr rfl
  have loop : codeAny (model X.prog X.w) X.A (.compLoop (.ListComp elt [⟨tg, .Call (.Name "range" p) [a] [] q, ifs, 0⟩] scope pos) 0 (.ref it) (.ref D) ce) (compPost (model X.prog X.w) X.A X.xe use Qf (.ref D) s3.heap.objs.size) s4 := by
    refine compLoop_any (fun m s' => ∃ i H', L2.Inv (X.blk s3 H3 scope ce [it]) [] (wipe σ (own.map (·.2))) H' s' ∧ RgAt it n i s'.heap ∧ H' it = none ∧ W i m H') ?_ m0 ⟨0, H3, I4, r4', f3.1, w0⟩
    rintro m s5 ⟨i, H5, I5, r5, n5, w5⟩
    rcases turn i m H5 w5 with ⟨stop, qq⟩ | ⟨go, Nx, hNx, step⟩
    · refine thnF (rg_done (X := X.blk s3 H3 scope ce [it]) (E := fun _ _ => False) hotB I5 (stat I5 n5 it one) r5 stop) fun r s6 ⟨hr, I6⟩ => ?_
      subst hr
      have I7 : L2.Inv X pins σ H5 s6 := I3.call' (ch := [it]) I6.os I6.base I6.hok I6.bare fun b hb => by
        obtain ⟨⟨_, g1, _, g3, g4, g5⟩, _⟩ := f3' b hb
        exact ⟨g3, g1, g4, g5⟩
      have nC : H5 s3.heap.objs.size = none := by rw [← cL]; exact I6.free
      obtain ⟨mL, hn, _⟩ := I6.loc
      exact fin D s3.heap.objs.size s6 mL H5 I7 qq (by rw [← cL]; exact hn) (I3.fpOk (Nat.le_refl _) nC)
    · refine thnF (rg_item (X := X.blk s3 H3 scope ce [it]) (tg := tg) (E := fun _ _ => False) I5 (stat I5 n5 it one) r5 go) fun r s6 ⟨u, hr, ru, h6⟩ => ?_
      subst hr
      refine thnF h6 fun _ s7 ⟨I7, r7⟩ => ?_
      have I8 := I7.pinned (stat I7 n5) (obj r7)
      have ru' : RelV (.int (0 + (i : Int))) u := by rw [Int.zero_add]; exact ru
      refine thnF (pg.run _ s7 _ H5 _ u _ I8 ru' (step _ H5 ⟨rfl, rfl⟩)) fun _ s8 ⟨σ8, H8, I9, hw8, q8⟩ => ?_
      refine thnF (pt.run _ s8 σ8 H8 _ I9 q8) fun b s9 ⟨H9, I10, q9⟩ => ?_
      have endT : ∀ {s' : Shared} {H' : Hp}, L2.Inv (X.blk s3 H3 scope ce [it]) ([] ++ pinsAt [it] s7.heap) σ8 H' s' → Nx H' → ∃ m2, m2 < m ∧ ∃ i H', L2.Inv (X.blk s3 H3 scope ce [it]) [] (wipe σ (own.map (·.2))) H' s' ∧ RgAt it n i s'.heap ∧ H' it = none ∧ W i m2 H' := fun {s' H'} I' nx => by
        obtain ⟨m', hm, w'⟩ := hNx H' nx
        obtain ⟨g1, g2, _⟩ := I'.pin _ (List.mem_append_right _ (List.mem_append_right _ (mem_pinsAt one r7)))
        refine ⟨m', hm, i + 1, H', (I'.unpinned (pins := [])).weak (by rw [← hw8, wipe_length]) (fun j v e => ?_), g1, g2, w'⟩
        rw [← hw8] at e
        exact (wipe_some e).1
      cases b with
      | false =>
        simp only [Bool.false_eq_true, if_false] at q9 ⊢
        exact endT I10 q9
      | true =>
        simp only [if_true] at q9 ⊢
        refine thnF (pe.run _ s9 σ8 H9 _ I10 q9) fun z s10 ⟨yv, H10, I11, r10, acc, hD10, hz10, nx⟩ => ?_
        exact app_ok (X := X.blk s3 H3 scope ce [it]) I11 hD10 hz10 r10 fun s11 I12 => endT I12 nx
  exact codeAny_compStart_list loop (wpAny_pyIter_rangeiter r4' loop)
theorem pe_lcT {elt tg a : Expr} {ifs : List Expr} {scope : Scope} {own : List (Str × Nat)} {pos p q : Pos} {ta : TA} {g : TG} {tt : TT} {te : TE} (hot : HotT X) (hN : X.N.Nodup) (hgr : Gl X "range") (hmr : X.mg "range" = none) (ha : PA X [a] ta) (ok : BlkOk X.N X.env.scope scope own)
    (hb : ∀ (s : Shared) (H : Hp) (C : Addr) (cl : List (Str × Addr)) (fp : List Addr), HotT (X.blk s H scope (compEnvC scope cl C X.env) fp) → PG (X.blk s H scope (compEnvC scope cl C X.env) fp) tg g ∧ PTs (X.blk s H scope (compEnvC scope cl C X.env) fp) ifs tt ∧ PE (X.blk s H scope (compEnvC scope cl C X.env) fp) elt te)
    (hst : starEach [a] X.env = [(false, eval a X.env)] := by rfl) (hs : ∀ x, foldedSetIterable (.Call (.Name "range" p) [a] [] q) X.env x = pure x := by intro _; rfl) :
    PE X (.ListComp elt [⟨tg, .Call (.Name "range" p) [a] [] q, ifs, 0⟩] scope pos) (tLc (iRng1 ta) g tt te (own.map (·.2))) := by
  refine ⟨fun pins s σ H Q I h => ?_⟩
  rw [eval_ListComp]
  refine lcT_core hot hN I hgr hmr ha ok hb hst hs h fun D C s' m H' J z hn f => ⟨m, hn, fun h2 sb => ?_⟩
  obtain ⟨g0, g1, _, g3, g4, g5⟩ := f
  exact ⟨.ref D, H', J.turned (t' := s'.toks) (fun b o hb e => (sb.2 b hb).trans e) g0 g1 g3 g4 g5, rfl, z⟩
end
end KHot
-- E7
namespace K87
open PySem PySem.Spec PyProof.Rows L2 L2H Evl KEv TL KDd KSq KSame KHot KSup
structure NmS (mg : Str → Option Value) : Prop where
  isi : mg "isinstance" = none
  bool : mg "bool" = none
  int : mg "int" = none
  str : mg "str" = none
  dict : mg "dict" = none
  tuple : mg "tuple" = none
  list : mg "list" = none
  range : mg "range" = none
/-! the own errors -/
inductive EK where
  | count | name | twice | cap | unk | term | sort | rows | large
  deriving DecidableEq
def nmE : EK → Str
  | .count => "BadCount"
  | .name => "BadName"
  | .twice => "Twice"
  | .cap => "BadCapital"
  | .unk => "UnknownName"
  | .term => "BadTerm"
  | .sort => "BadSort"
  | .rows => "BadRows"
  | .large => "TooLarge"
def fl : EK → List Str
  | .count => ["what"]
  | .name => ["name"]
  | .twice => ["name"]
  | .cap => ["capital"]
  | .unk => ["name"]
  | .term => ["text", "place"]
  | .sort => ["at"]
  | .rows => ["place"]
  | .large => ["size"]
structure Errs (prog : Program) (K : PySem.W.Frag) (mg : Str → Option Value) (ec fi : EK → Addr) : Prop where
  t : ∀ k, SupTxt prog K mg (nmE k) (ec k) (fi k) (fl k)
  x : ∀ k, ExcC K (ec k)
  kit : ∀ j k, PySem.W.kitOne K (.ref (ec j)) (.ref (ec k)) = some (decide (j = k))
/-- at a: an error of the kind k with the fields fv -/
def ErrAt (ec : EK → Addr) (H : Hp) (a : Addr) (k : EK) (fv : List V) : Prop := ∃ dd, XcAt H a (.ref (ec k)) (some dd) ∧ H dd = some (.xd ((fl k).zip fv).reverse)
theorem ErrAt.mono {ec : EK → Addr} {H H' : Hp} {a : Addr} {k : EK} {fv : List V} (h : ErrAt ec H a k fv) (e : Ex H H') : ErrAt ec H' a k fv := by
  obtain ⟨dd, ⟨oe, vs, h1, h2⟩, h3⟩ := h
  exact ⟨dd, ⟨oe, vs, e _ _ h1, h2⟩, e _ _ h3⟩
section
variable {prog : Program} {P : Program} {w : World} {K : PySem.W.Frag} {mg : Str → Option Value} {base : Heap} {ec fi : EK → Addr} {σ : L2.St} {H : Hp} {a : Addr} {ta : TE} {fv : List V}
theorem ev_isX {j k : EK} (E : Errs prog K mg ec fi) (h : Ev ta σ H (.ref a)) (hF : ErrAt ec H a j fv) : Ev (tCB (rIsX K) (tCons ta (tCons (tC (.ref (ec k))) tNil))) σ H (.bl (decide (j = k))) :=
  ev_cb (ea_cons h (ea_cons ev_c ea_nil)) fun H1 e Q q => by
    obtain ⟨dd, h1, h2⟩ := hF.mono e
    exact ⟨a, _, dd, _, .ref (ec k), .ref (ec k), _, rfl, h1, h2, E.x j, fun u r => r, E.kit j k, q H1 (Ex.refl H1)⟩
theorem ev_xa {j : EK} {f : Str} {v : V} (E : Errs prog K mg ec fi) (h : Ev ta σ H (.ref a)) (hF : ErrAt ec H a j fv) (hf : (((fl j).zip fv).reverse).lookup f = some v ∧ f ∈ fl j) : Ev (tXa K f ta) σ H v := fun H1 e Q q =>
  h H1 e _ fun H2 e2 => by
    obtain ⟨dd, h1, h2⟩ := hF.mono (e.trans e2)
    exact ⟨a, _, dd, _, v, rfl, h1, h2, hf.1, ⟨(E.x j).hg, (E.x j).hk, (E.x j).hs, (E.x j).hd⟩, (E.t j).no f hf.2, q H2 e2⟩
theorem one_of {l : List V} (h : l.length = 1) : ∃ v, l = [v] := by
  match l, h with
  | [v], _ => exact ⟨v, rfl⟩
theorem two_of {l : List V} (h : l.length = 2) : ∃ v u, l = [v, u] := by
  match l, h with
  | [v, u], _ => exact ⟨v, u, rfl⟩
end
end K87
-- E8
namespace K87
open PySem PySem.Spec PyProof.Rows L2 Evl KEv TL KDd KSq KSame KTxt KHot KSup
/-! the class Signature: what is due, its dicts, _add_sort -/
/-- a def that may raise -/
theorem okXN {P : Program} {w : World} {K : PySem.W.Frag} {mg : Str → Option Value} {base : Heap} {x qual : Str} {st : Stmt} {f : Addr} {fd : FuncData} {N ps : List Str} {k : Nat} {sp : Sp} (F : Fun K x qual st f fd) (S : FnScope N ps (defScope st)) (len : ∀ vs H Q E, sp vs H Q E → vs.length = ps.length)
    (hbody : ∀ (cdv : Value) (A : Around) (outer : List Env) (s : Shared) (H : Hp) (vs : List V) (Q : VK) (E : XK), Room k (A.deeper (envOfC qual (defScope st) s.heap.objs.size f cdv)) → sp vs H Q E →
      ∃ t, PSs (cxOf (L2N.CX P w) P w K mg base N qual (defScope st) f cdv A outer s H E) (defBody st) t ∧ t { nx := fun _ H' => Q .non H', rt := Q } (start N vs) H) : FnOk P w K mg base (L2N.CX P w) (k + 1) f fd ps sp := by
  obtain ⟨oc, od, kV, doc, pm, an, cdv, ct, osl, rfl, lk, hcd⟩ := F.ex
  exact fn_of lk hcd S len fun A outer s H vs Q E hr hsp => hbody cdv A outer s H vs Q E hr hsp
abbrev Row := Str × Str
/-- one capital -/
def capB (l : List Nat) : Bool := decide (l.length = 1) && headIn (tl capitals) l
def sortFault (done : List Row) (n c : Str) : Option (EK × Str) :=
  if nameB (tl n) = false then some (.name, n) else if decide (n ∈ done.map (·.1)) = true then some (.twice, n) else if capB (tl c) = false then some (.cap, c) else if decide (c ∈ done.map (·.2)) = true then some (.twice, c) else none
def dkv {α : Type} (k : α → Str) (v : α → V) (l : List α) : List (Key × V) := l.map fun r => (Sum.inr (k r), v r)
abbrev capK (done : List Row) : List (Key × V) := dkv (·.1) (fun r => V.str r.2) done
abbrev sorK (done : List Row) : List (Key × V) := dkv (·.2) (fun r => V.str r.1) done
theorem dkv_some {α : Type} (k : α → Str) (v : α → V) (x : Str) : ∀ l : List α, (valV (dkv k v l) (Sum.inr x)).isSome = decide (x ∈ l.map k)
  | [] => rfl
  | r :: l => by
    by_cases e : k r = x
    · have z := valV_pos (p := ((Sum.inr (k r) : Key), v r)) (r := dkv k v l) (k := Sum.inr x) (by rw [e])
      show (valV ((Sum.inr (k r), v r) :: dkv k v l) (Sum.inr x)).isSome = _
      rw [z]
      simp [e]
    · have z := valV_neg (p := ((Sum.inr (k r) : Key), v r)) (r := dkv k v l) (k := Sum.inr x) (fun z => e (Sum.inr.inj z))
      show (valV ((Sum.inr (k r), v r) :: dkv k v l) (Sum.inr x)).isSome = _
      rw [z, dkv_some k v x l]
      have e' : ¬ x = k r := fun z => e z.symm
      simp [e']
theorem dkv_put {α : Type} {k : α → Str} {v : α → V} {l : List α} {r : α} (h : decide (k r ∈ l.map k) = false) : putK (dkv k v l) (Sum.inr (k r)) (v r) = dkv k v (l ++ [r]) := by
  rw [putK_new _ (by
    have := dkv_some k v (k r) l
    rw [h] at this
    cases e : valV (dkv k v l) (Sum.inr (k r)) with
    | none => rfl
    | some u => rw [e] at this; cases this)]
  simp [dkv]
theorem dkv_len {α : Type} {k : α → Str} {v : α → V} {l : List α} : (dkv k v l).length = l.length := by simp [dkv]
/-- the instance's attributes -/
def AtI (C : Addr) (H : Hp) (a : Addr) (m : List (Str × V)) : Prop := ∃ dx fs, H a = some (.ins C dx fs) ∧ ∀ p ∈ m, fs.lookup p.1 = some p.2
theorem AtI.mono {C : Addr} {H H' : Hp} {a : Addr} {m : List (Str × V)} (h : AtI C H a m) (e : H a = H' a) : AtI C H' a m := by
  obtain ⟨dx, fs, h1, h2⟩ := h
  exact ⟨dx, fs, e ▸ h1, h2⟩
structure SigC (K : PySem.W.Frag) (C : Addr) : Prop where
  cl : Cls K C
  na : ∀ f ∈ (["_capitals", "_sorts", "_arguments", "_results", "sorts", "signs", "said"] : List Str), NoAttr K C f
section
variable {P : Program} {w : World} {K : PySem.W.Frag} {mg : Str → Option Value} {base : Heap} {ec fi : EK → Addr} {C : Addr} {σ : L2.St} {H : Hp} {ta ty td : TE}
theorem ev_fld {a : Addr} {m : List (Str × V)} {f : Str} {v : V} (S : SigC K C) (h : Ev ta σ H (.ref a)) (hA : AtI C H a m) (hm : (f, v) ∈ m) (hf : f ∈ (["_capitals", "_sorts", "_arguments", "_results", "sorts", "signs", "said"] : List Str)) : Ev (tFld K ta f) σ H v := fun H1 e Q q =>
  h H1 e _ fun H2 e2 => by
    obtain ⟨dx, fs, h1, h2⟩ := hA
    exact ⟨a, C, dx, fs, v, rfl, e2 _ _ (e _ _ h1), S.cl, S.na f hf, h2 _ hm, q H2 e2⟩
theorem ev_din {a : Addr} {kvs : List (Key × V)} {k : Key} (hk : Ev ty σ H (kV k)) (hd : Ev td σ H (.ref a)) (h : H a = some (.dK kvs)) : Ev (tDIn ty td) σ H (.bl (valV kvs k).isSome) := fun H1 e Q q =>
  hk H1 e _ fun H2 e2 => hd H2 (e.trans e2) _ fun H3 e3 => ⟨a, _, rfl, DGet.k (e3 _ _ (e2 _ _ (e _ _ h))), q H3 (e2.trans e3)⟩
/-- all but these stand -/
def ExB (bs : List Addr) (H H' : Hp) : Prop := ∀ b o, b ∉ bs → H b = some o → H' b = some o
/-- a raise of the kind k with the text s -/
def RaisesE (ec : EK → Addr) (k : EK) (s : Str) (H : Hp) (E : XK) : Prop := ∀ d H', H d = none → Ex H H' → H' d = some (.xd ((fl k).zip [V.str s]).reverse) → E (.ref (ec k)) (some d) H'
theorem RaisesE.mono {k : EK} {s : Str} {H' : Hp} {E : XK} (h : RaisesE ec k s H E) (e : Ex H H') : RaisesE ec k s H' E := fun d H2 hd e2 h2 => h d H2 (fresh_back e hd) (e.trans e2) h2
theorem AtI.ex {H' : Hp} {a : Addr} {m : List (Str × V)} (h : AtI C H a m) (e : Ex H H') : AtI C H' a m := by
  obtain ⟨dx, fs, h1, h2⟩ := h
  exact ⟨dx, fs, e _ _ h1, h2⟩
theorem AtI.upd {a p : Addr} {m : List (Str × V)} {o u : HO} (h : AtI C H a m) (hp : H p = some o) (ho : ∀ D dx fs, o ≠ .ins D dx fs) : AtI C (upd H p u) a m := by
  obtain ⟨dx, fs, h1, h2⟩ := h
  refine ⟨dx, fs, ?_, h2⟩
  rw [upd_ne (fun z => by
    rw [z, hp] at h1
    exact ho _ _ _ (Option.some.inj h1))]
  exact h1
theorem s_raise {k : EK} {s : Str} {te : TE} {E : XK} (h : Ev te σ H (.str s)) (hl : (fl k).length = 1) (hE : RaisesE ec k s H E) : tMkS (ec k) (fl k) (tCons te tNil) σ H fun cls d H' => E cls d H' :=
  (ea_cons h ea_nil) H (Ex.refl H) _ fun H1 e1 => ⟨hl.symm, fun d hd => hE d _ (fresh_back e1 hd) (e1.trans (Ex.new hd)) upd_same⟩
def spAddSort (ec : EK → Addr) (C : Addr) : Sp := fun vs H Q E => ∃ (a pc ps : Addr) (done : List Row) (n c : Str), vs = [.ref a, .str n, .str c] ∧ AtI C H a [("_capitals", .ref pc), ("_sorts", .ref ps)] ∧ pc ≠ ps ∧ H pc = some (.dK (capK done)) ∧ H ps = some (.dK (sorK done)) ∧ done.length ≤ 100 ∧ n.length ≤ 100000 ∧ c.length ≤ 100000 ∧
  (∀ k s, sortFault done n c = some (k, s) → RaisesE ec k s H E) ∧
  (sortFault done n c = none → ∀ H', ExB [pc, ps] H H' → H' pc = some (.dK (capK (done ++ [(n, c)]))) → H' ps = some (.dK (sorK (done ++ [(n, c)]))) → Q .non H')
abbrev sSig (j : Nat) : Stmt := inClass (topS 22) j
theorem scAddSort : FnScope ["self", "name", "capital"] ["self", "name", "capital"] (defScope (sSig 1)) := ⟨rfl, rfl, rfl, by decide +kernel, rfl, by decide +kernel, by decide +kernel⟩
theorem ok_add_sort {f fn : Addr} {fd fdn : FuncData} (F : Fun K "_add_sort" "Signature._add_sort" (sSig 1) f fd) (D : DefAt K mg 16 "is_name" ["text"] fn fdn) (N : Nm mg) (S : SigC K C) (E0 : Errs P K mg ec fi) :
    FnOk P w K mg base (L2N.CX P w) 2 f fd ["self", "name", "capital"] (spAddSort ec C) := by
  obtain ⟨tc, gC⟩ := N.CAPITALS
  have G : FnOk P w K mg base CX0 1 fn fdn ["text"] spIsName := ok_is_name D N
  refine okXN F scAddSort (fun vs H Q E h => ?_) (fun cdv A outer s H vs Q E hr h => ?_)
  · obtain ⟨a, pc, ps, done, n, c, rfl, _⟩ := h
    rfl
  · obtain ⟨a, pc, ps, done, n, c, rfl, hA, hne, hpc, hps, hd, hn, hc, kf, kn⟩ := h
    have hu := hu_of hr
    have tk := L2N.takes_of (X := cxOf (L2N.CX P w) P w K mg base ["self", "name", "capital"] "Signature._add_sort" (defScope (sSig 1)) f cdv A outer s H E) rfl rfl rfl rfl
    refine ⟨_, pss_cons (ps_if (pt_not (pt_val (pe_call G hr (by rfl) D.g D.F.kp D.b .nil pass0 (pa_cons (pv 1) pa_nil)))) (pss_one (L2N.ps_raise rfl tk (pmk_sup (x := "BadName") (E0.t .name) (by decide) hr (pa_cons (pv 1) pa_nil) (by rfl)))) pss_nil)
      (pss_cons (ps_if (pt_cmp (pc_din hu (pv 1) (pe_fld (pv 0) (by rfl)))) (pss_one (L2N.ps_raise rfl tk (pmk_sup (x := "Twice") (E0.t .twice) (by decide) hr (pa_cons (pv 1) pa_nil) (by rfl)))) pss_nil)
      (pss_cons (ps_if (PW.pt (pw_or (pt_cmpR op_ne (pe_callB call_lenT (by rfl) N.len PySem.boot_len (pa_cons (pv 2) pa_nil)) pe_int (nomark _)) (pw_or1 (pt_cmpR op_niS (pv 2) (pe_glob rfl gC relS) rfl)))) (pss_one (L2N.ps_raise rfl tk (pmk_sup (x := "BadCapital") (E0.t .cap) (by decide) hr (pa_cons (pv 2) pa_nil) (by rfl)))) pss_nil)
      (pss_cons (ps_if (pt_cmp (pc_din hu (pv 2) (pe_fld (pv 0) (by rfl)))) (pss_one (L2N.ps_raise rfl tk (pmk_sup (x := "Twice") (E0.t .twice) (by decide) hr (pa_cons (pv 2) pa_nil) (by rfl)))) pss_nil)
      (pss_cons (ps_dput hu (pe_fld (pv 0) (by rfl)) (pv 1) (pv 2) rfl) (pss_one (ps_dput hu (pe_fld (pv 0) (by rfl)) (pv 2) (pv 1) rfl)))))), ?_⟩
    cases b1 : nameB (tl n) with
    | false => exact q_when (b := true) (et_is (et_not (et_B (ev_call (z := .bl (nameB (tl n))) (ea_cons (ev_var rfl) ea_nil) (fun H8 e8 Q q E => ⟨n, rfl, hn, fun H9 e9 => q H9 e9⟩)))) (by rw [b1]; rfl)) (fun _ H1 e1 => s_raise (ev_var rfl) rfl ((kf .name n (by unfold sortFault; rw [if_pos b1])).mono e1)) (fun z => by cases z)
    | true =>
      refine q_when (b := false) (et_is (et_not (et_B (ev_call (z := .bl (nameB (tl n))) (ea_cons (ev_var rfl) ea_nil) (fun H8 e8 Q q E => ⟨n, rfl, hn, fun H9 e9 => q H9 e9⟩)))) (by rw [b1]; rfl)) (fun z => by cases z) (fun _ H1 e1 => ?_)
      have u1 : ¬ nameB (tl n) = false := by rw [b1]; decide
      cases b2 : decide (n ∈ done.map (·.1)) with
      | true => exact q_when (b := true) (et_is (et_test (ev_din (k := Sum.inr n) (ev_var rfl) (ev_fld S (ev_var rfl) (hA.ex e1) (f := "_capitals") (v := .ref pc) List.mem_cons_self (by decide)) (e1 _ _ hpc))) (by rw [dkv_some]; exact b2)) (fun _ H2 e2 => s_raise (ev_var rfl) rfl ((kf .twice n (by unfold sortFault; rw [if_neg u1, if_pos b2])).mono (e1.trans e2))) (fun z => by cases z)
      | false =>
        refine q_when (b := false) (et_is (et_test (ev_din (k := Sum.inr n) (ev_var rfl) (ev_fld S (ev_var rfl) (hA.ex e1) (f := "_capitals") (v := .ref pc) List.mem_cons_self (by decide)) (e1 _ _ hpc))) (by rw [dkv_some]; exact b2)) (fun z => by cases z) (fun _ H2 e2 => ?_)
        have e2 := e1.trans e2
        have u2 : ¬ decide (n ∈ done.map (·.1)) = true := by rw [b2]; decide
        by_cases b3 : c.length = 1
        · have ec1 : c = ⟨#[(tl c).headD 0]⟩ := by
            have hl : (tl c).length = 1 := by rw [← len_tl]; exact b3
            obtain ⟨⟨cs⟩⟩ := c
            have hl' : cs.length = 1 := hl
            match cs, hl' with
            | [x], _ => rfl
          generalize (tl c).headD 0 = x at ec1
          subst ec1
          cases b4 : decide (x ∈ capitals.cps.toList) with
          | false =>
            have b4' : capB (tl ⟨#[x]⟩) = false := by
              show (decide (1 = 1) && decide (x ∈ tl capitals)) = false
              rw [show decide (x ∈ tl capitals) = false from b4]
              rfl
            exact q_when (b := true) (et_or (a := false) (b := true) (et_is (et_test (ev_op (ev_lenT (ev_var rfl) (by omega)) ev_c (rv_ne rfl))) (by simp [b3])) fun _ => et_is (et_test (ev_op (ev_var rfl) ev_c rv_niS)) (by rw [b4]; rfl)) (fun _ H3 e3 => s_raise (ev_var rfl) rfl ((kf .cap _ (by unfold sortFault; rw [if_neg u1, if_neg u2, if_pos b4'])).mono (e2.trans e3))) (fun z => by cases z)
          | true =>
            have u4 : ¬ capB (tl ⟨#[x]⟩) = false := by
              show ¬ (decide (1 = 1) && decide (x ∈ tl capitals)) = false
              rw [show decide (x ∈ tl capitals) = true from b4]
              exact fun z => by cases z
            refine q_when (b := false) (et_or (a := false) (b := false) (et_is (et_test (ev_op (ev_lenT (ev_var rfl) (by omega)) ev_c (rv_ne rfl))) (by simp [b3])) fun _ => et_is (et_test (ev_op (ev_var rfl) ev_c rv_niS)) (by rw [b4]; rfl)) (fun z => by cases z) (fun _ H3 e3 => ?_)
            have e3 := e2.trans e3
            cases b5 : decide ((⟨#[x]⟩ : Str) ∈ done.map (·.2)) with
            | true => exact q_when (b := true) (et_is (et_test (ev_din (k := Sum.inr (⟨#[x]⟩ : Str)) (ev_var rfl) (ev_fld S (ev_var rfl) (hA.ex e3) (f := "_sorts") (v := .ref ps) (List.mem_cons_of_mem _ List.mem_cons_self) (by decide)) (e3 _ _ hps))) (by rw [dkv_some]; exact b5)) (fun _ H4 e4 => s_raise (ev_var rfl) rfl ((kf .twice _ (by unfold sortFault; rw [if_neg u1, if_neg u2, if_neg u4, if_pos b5])).mono (e3.trans e4))) (fun z => by cases z)
            | false =>
              refine q_when (b := false) (et_is (et_test (ev_din (k := Sum.inr (⟨#[x]⟩ : Str)) (ev_var rfl) (ev_fld S (ev_var rfl) (hA.ex e3) (f := "_sorts") (v := .ref ps) (List.mem_cons_of_mem _ List.mem_cons_self) (by decide)) (e3 _ _ hps))) (by rw [dkv_some]; exact b5)) (fun z => by cases z) (fun _ H4 e4 => ?_)
              have e4 := e3.trans e4
              have u5 : ¬ decide ((⟨#[x]⟩ : Str) ∈ done.map (·.2)) = true := by rw [b5]; decide
              have hnone : sortFault done n ⟨#[x]⟩ = none := by unfold sortFault; rw [if_neg u1, if_neg u2, if_neg u4, if_neg u5]
              refine q_dput (k := Sum.inr n) (v := .str ⟨#[x]⟩) (ev_var rfl) (ev_fld S (ev_var rfl) (hA.ex e4) (f := "_capitals") (v := .ref pc) List.mem_cons_self (by decide)) (ev_var rfl) (e4 _ _ hpc) (by rw [dkv_len]; omega) fun H5 e5 => ?_
              have e5 := e4.trans e5
              have put1 := dkv_put (k := fun r : Row => r.1) (v := fun r : Row => V.str r.2) (l := done) (r := (n, ⟨#[x]⟩)) b2
              have put2 := dkv_put (k := fun r : Row => r.2) (v := fun r : Row => V.str r.1) (l := done) (r := (n, ⟨#[x]⟩)) b5
              have hA5 := (hA.ex e5).upd (u := .dK (capK (done ++ [(n, ⟨#[x]⟩)]))) (e5 _ _ hpc) (fun _ _ _ z => nomatch z)
              have hps5 : (L2.upd H5 pc (.dK (capK (done ++ [(n, ⟨#[x]⟩)])))) ps = some (.dK (sorK done)) := by rw [upd_ne (Ne.symm hne)]; exact e5 _ _ hps
              rw [show putK (capK done) (Sum.inr n) (.str ⟨#[x]⟩) = capK (done ++ [(n, ⟨#[x]⟩)]) from put1]
              refine s_dput (k := Sum.inr (⟨#[x]⟩ : Str)) (v := .str n) (ev_var rfl) (ev_fld S (ev_var rfl) hA5 (f := "_sorts") (v := .ref ps) (List.mem_cons_of_mem _ List.mem_cons_self) (by decide)) (ev_var rfl) hps5 (by rw [dkv_len]; omega) fun H6 e6 => ?_
              refine kn hnone _ (fun b o hb ho => ?_) ?_ ?_
              · have nb1 : b ≠ pc := fun z => hb (by rw [z]; exact List.mem_cons_self)
                have nb2 : b ≠ ps := fun z => hb (by rw [z]; exact List.mem_cons_of_mem _ List.mem_cons_self)
                rw [upd_ne nb2]
                exact e6 _ _ (by rw [upd_ne nb1]; exact e5 _ _ ho)
              · rw [upd_ne hne]
                exact e6 _ _ upd_same
              · rw [upd_same]
                exact congrArg (fun z => some (HO.dK z)) put2
        · have b3' : capB (tl c) = false := by
            unfold capB
            rw [← len_tl, decide_eq_false b3]
            rfl
          exact q_when (b := true) (et_or (a := true) (b := true) (et_is (et_test (ev_op (ev_lenT (ev_var rfl) (by omega)) ev_c (rv_ne rfl))) (by simp; omega)) fun z => by cases z) (fun _ H3 e3 => s_raise (ev_var rfl) rfl ((kf .cap c (by unfold sortFault; rw [if_neg u1, if_neg u2, if_pos b3'])).mono (e2.trans e3))) (fun z => by cases z)
end
end K87
-- KNew
/-! what is made anew, told by a relation: G is what is known behind it; what H1 held beyond H stays out of G -/
namespace KNew
open PySem PySem.Spec PyProof.Rows L2 Evl KEv KSq KD
/-- G beside H1: known beyond H only what is new -/
structure Nw (H H1 G H2 : Hp) : Prop where
  up : Ex H G
  st : Ex G H2
  kp : Ex H1 H2
  fr : ∀ b, H b = none → H1 b ≠ none → G b = none
theorem Nw.refl {H H1 : Hp} (e : Ex H H1) : Nw H H1 H H1 := ⟨Ex.refl H, e, Ex.refl H1, fun b h _ => h⟩
theorem Nw.trans {H H1 G H2 G' H3 : Hp} (a : Nw H H1 G H2) (b : Nw G H2 G' H3) : Nw H H1 G' H3 := ⟨a.up.trans b.up, b.st, a.kp.trans b.kp, fun x h h1 => b.fr x (a.fr x h h1) (by
  cases e : H1 x with
  | none => exact absurd e h1
  | some o => rw [a.kp _ _ e]; exact fun z => nomatch z)⟩
/-- nothing known, memory moves on -/
theorem Nw.go {H H1 G H2 H3 : Hp} (a : Nw H H1 G H2) (e : Ex H2 H3) : Nw H H1 G H3 := ⟨a.up, a.st.trans e, a.kp.trans e, a.fr⟩
/-- one new object, known -/
theorem Nw.add {H H1 G H2 H3 : Hp} {p : Addr} {o : HO} (a : Nw H H1 G H2) (hp : H2 p = none) (e : Ex H2 H3) (h : H3 p = some o) : Nw H H1 (upd G p o) H3 :=
  have gp : G p = none := fresh_back a.st hp
  ⟨a.up.trans (Ex.new gp), fun b u q => by
    by_cases z : b = p
    · rw [z, upd_same] at q
      rw [z, h, q]
    · rw [upd_ne z] at q
      exact e _ _ (a.st _ _ q), a.kp.trans e, fun b q r => by
    have z : b ≠ p := fun z => r (by rw [z]; exact fresh_back a.kp hp)
    rw [upd_ne z]
    exact a.fr b q r⟩
theorem Nw.pre {H H0 H1 G H2 : Hp} (e : Ex H0 H1) (a : Nw H H1 G H2) : Nw H H0 G H2 := ⟨a.up, a.st, e.trans a.kp, fun b q r => a.fr b q (by
  cases z : H0 b with
  | none => exact absurd z r
  | some o => rw [e _ _ z]; exact fun z => nomatch z)⟩
theorem Nw.new {H H1 G H2 : Hp} {p : Addr} (a : Nw H H1 G H2) (h : H p = none) (hg : G p ≠ none) : H1 p = none := by
  cases z : H1 p with
  | none => rfl
  | some o => exact absurd (a.fr p h (by rw [z]; exact fun z => nomatch z)) hg
def EvN (te : TE) (σ : L2.St) (H : Hp) (R : V → Hp → Prop) : Prop := ∀ H1, Ex H H1 → ∀ Q : VK, (∀ v G H2, Nw H H1 G H2 → R v G → Q v H2) → te σ H1 Q
def EvNA (ta : TA) (σ : L2.St) (H : Hp) (R : List V → Hp → Prop) : Prop := ∀ H1, Ex H H1 → ∀ Q : List V → Hp → Prop, (∀ vs G H2, Nw H H1 G H2 → R vs G → Q vs H2) → ta σ H1 Q
/-- what a relation on new lists is -/
def IsL (R : List V → Hp → Prop) : V → Hp → Prop := fun v G => ∃ p ys, v = .ref p ∧ G p = some (.lst ys) ∧ R ys G
def IsT (R : List V → Hp → Prop) : V → Hp → Prop := fun v G => ∃ p ys, v = .ref p ∧ G p = some (.tup ys) ∧ R ys G
/-- a new list that H did not know -/
def FrL (H : Hp) (R : List V → Hp → Prop) : V → Hp → Prop := fun v G => ∃ p ys, v = .ref p ∧ H p = none ∧ G p = some (.lst ys) ∧ R ys G
def MonoR (R : List V → Hp → Prop) : Prop := ∀ ys G G', R ys G → Ex G G' → R ys G'
section
variable {K : PySem.W.Frag} {σ : L2.St} {B H H' : Hp} {d a : Addr} {ta tr : TA} {te tl : TE} {v : V} {xs : List V} {R R' : V → Hp → Prop} {Rs : List V → Hp → Prop} {g : TG} {vs : List Nat}
theorem EvN.mono (e : Ex H H') (h : EvN te σ H' R) (hn : ∀ b, H b = none → H' b = none) : EvN te σ H R := fun H1 e1 Q q => by
  have : H = H' := funext fun b => by
    cases z : H b with
    | none => rw [hn b z]
    | some o => rw [e _ _ z]
  rw [this] at e1 q
  exact h H1 e1 Q q
theorem EvN.imp (h : EvN te σ H R) (hi : ∀ v G, Ex H G → R v G → R' v G) : EvN te σ H R' := fun H1 e Q q => h H1 e Q fun v G H2 n r => q v G H2 n (hi v G n.up r)
theorem EvNA.imp {Rs' : List V → Hp → Prop} (h : EvNA ta σ H Rs) (hi : ∀ v G, Ex H G → Rs v G → Rs' v G) : EvNA ta σ H Rs' := fun H1 e Q q => h H1 e Q fun v G H2 n r => q v G H2 n (hi v G n.up r)
theorem en_ev (h : Ev te σ H v) : EvN te σ H fun u _ => u = v := fun H1 e Q q => h H1 e Q fun H2 e2 => q v H H2 ((Nw.refl e).go e2) rfl
theorem en_el (h : EvL te σ H xs) : EvN te σ H (IsL fun ys _ => ys = xs) := fun H1 e Q q => h H1 e Q fun p H2 hp e2 h2 => q (.ref p) (upd H p (.lst xs)) H2 ((Nw.refl e).add hp e2 h2) ⟨p, xs, rfl, upd_same, rfl⟩
theorem en_eu (h : EvU te σ H xs) : EvN te σ H (IsT fun ys _ => ys = xs) := fun H1 e Q q => h H1 e Q fun p H2 hp e2 h2 => q (.ref p) (upd H p (.tup xs)) H2 ((Nw.refl e).add hp e2 h2) ⟨p, xs, rfl, upd_same, rfl⟩
theorem ena_nil : EvNA tNil σ H fun vs _ => vs = [] := fun H1 e Q q => q [] H H1 (Nw.refl e) rfl
theorem ena_cons {Rr : V → List V → Hp → Prop} {Rw : List V → Hp → Prop} (h : EvN te σ H R) (hr : ∀ v G, Ex H G → R v G → EvNA tr σ G (Rr v)) (hw : ∀ v vs G G', R v G → Ex G G' → Rr v vs G' → Rw (v :: vs) G') : EvNA (tCons te tr) σ H Rw := fun H1 e Q q =>
  h H1 e _ fun v G H2 n r => hr v G n.up r H2 n.st _ fun vs G' H3 n' r' => q (v :: vs) G' H3 (n.trans n') (hw v vs G G' r n'.up r')
theorem ena_ev {vs : List V} (h : EvA ta σ H vs) : EvNA ta σ H fun us _ => us = vs := fun H1 e Q q => h H1 e Q fun H2 e2 => q vs H H2 ((Nw.refl e).go e2) rfl
theorem ena_consV (h : Ev te σ H v) (hr : EvNA tr σ H Rs) : EvNA (tCons te tr) σ H fun us G => ∃ r, us = v :: r ∧ Rs r G := fun H1 e Q q =>
  h H1 e _ fun H2 e2 => hr H2 (e.trans e2) _ fun vs G H3 n r => q (v :: vs) G H3 (n.pre e2) ⟨vs, rfl, r⟩
theorem ena_consN (hR : ∀ v G G', R v G → Ex G G' → R v G') (h : EvN te σ H R) (hr : ∀ G, Ex H G → EvNA tr σ G Rs) : EvNA (tCons te tr) σ H fun us G => ∃ v r, us = v :: r ∧ R v G ∧ Rs r G :=
  ena_cons (Rr := fun _ => Rs) h (fun v G e _ => hr G e) fun v vs G G' r e r' => ⟨v, vs, rfl, hR v G G' r e, r'⟩
theorem en_tup (hm : MonoR Rs) (h : EvNA ta σ H Rs) (hl : ∀ us G, Rs us G → us.length ≤ 100000) : EvN (tTup ta) σ H (IsT Rs) := fun H1 e Q q =>
  h H1 e _ fun us G H2 n r => ⟨sz_of (hl us G r), fun p hp => q (.ref p) (upd G p (.tup us)) _ (n.add hp (Ex.new hp) upd_same) ⟨p, us, rfl, upd_same, hm us G _ r (Ex.new (fresh_back n.st hp))⟩⟩
theorem en_lst (hm : MonoR Rs) (h : EvNA ta σ H Rs) (hl : ∀ us G, Rs us G → us.length ≤ 100000) : EvN (tLst ta) σ H (IsL Rs) := fun H1 e Q q =>
  h H1 e _ fun us G H2 n r => ⟨sz_of (hl us G r), fun p hp => q (.ref p) (upd G p (.lst us)) _ (n.add hp (Ex.new hp) upd_same) ⟨p, us, rfl, upd_same, hm us G _ r (Ex.new (fresh_back n.st hp))⟩⟩
theorem en_elF (h : EvL te σ H xs) : EvN te σ H (FrL H fun ys _ => ys = xs) := fun H1 e Q q => h H1 e Q fun p H2 hp e2 h2 => q (.ref p) (upd H p (.lst xs)) H2 ((Nw.refl e).add hp e2 h2) ⟨p, xs, rfl, fresh_back e hp, upd_same, rfl⟩
theorem en_lstF (hm : MonoR Rs) (h : EvNA ta σ H Rs) (hl : ∀ us G, Rs us G → us.length ≤ 100000) : EvN (tLst ta) σ H (FrL H Rs) := fun H1 e Q q =>
  h H1 e _ fun us G H2 n r => ⟨sz_of (hl us G r), fun p hp => q (.ref p) (upd G p (.lst us)) _ (n.add hp (Ex.new hp) upd_same) ⟨p, us, rfl, fresh_back (n.up.trans n.st) hp, upd_same, hm us G _ r (Ex.new (fresh_back n.st hp))⟩⟩
/-- tuple(xs) of a new list -/
def rTupSq (K : PySem.W.Frag) : List V → Hp → VK → Prop := fun xs H Q => ∃ p ys, xs = [.ref p] ∧ ((SqL K H p ys ∧ ∀ l, H l = none → Q (.ref l) (upd H l (.tup ys))) ∨ (SqT K H p ys ∧ Q (.ref p) H))
theorem call_tupK {X : Cx} {K : PySem.W.Frag} (h : X.K = K) : CallR X (.type "tuple") (rTupSq K) := by
  subst h
  exact call_tuple_of
theorem en_tupL (hm : MonoR Rs) (h : EvN te σ H (IsL Rs)) : EvN (tCB (rTupSq K) (tCons te tNil)) σ H (IsT Rs) := fun H1 e Q q =>
  h H1 e _ fun v G H2 n r => by
    obtain ⟨p, ys, rfl, hp, r⟩ := r
    exact ⟨p, ys, rfl, .inl ⟨sq_of (n.st _ _ hp), fun l hl => q (.ref l) (upd G l (.tup ys)) _ (n.add hl (Ex.new hl) upd_same) ⟨l, ys, rfl, upd_same, hm ys G _ r (Ex.new (fresh_back n.st hl))⟩⟩⟩
/-- a comprehension over a list, every turn gives -/
theorem en_lcLF (Rl : Nat → V → Hp → Prop) (hm : ∀ i y G G', Rl i y G → Ex G G' → Rl i y G') (h : Ev tl σ H (.ref a)) (hx : SqL K H a xs) (hz : xs.length ≤ 40000)
    (hs : ∀ i x G H1, Ex H G → Ex G H1 → xs[i]? = some x → ∀ Q : VK, (∀ y G' H2, Nw G H1 G' H2 → Rl i y G' → Q y H2) → g x (wipe σ vs) H1 fun σ2 H2 => wipe σ2 vs = wipe σ vs ∧ te σ2 H2 Q) :
    EvN (tLc (iList K tl) g tYes te vs) σ H (FrL H fun ys G => ys.length = xs.length ∧ ∀ i y, ys[i]? = some y → Rl i y G) := fun H0 e0 Q q => h H0 e0 _ fun H1 e1 => ⟨a, rfl, ⟨xs, ex_l (e0.trans e1) hx⟩, fun D hD =>
  lc_list (xs := xs) (fun i H' => ∃ G acc, Nw H H1 G H' ∧ G D = none ∧ H' D = some (.lst acc) ∧ acc.length = i ∧ ∀ j y, acc[j]? = some y → Rl j y G)
    ⟨H, [], (Nw.refl (e0.trans e1)).go (Ex.new hD), fresh_back (e0.trans e1) hD, upd_same, rfl, fun j y hj => by simp at hj⟩
    (fun i H' _ p => by
      obtain ⟨G, acc, n, _⟩ := p
      exact ex_l (n.up.trans n.st) hx)
    (fun i x H' hi p => by
      obtain ⟨G, acc, n, gD, hacc, hl, hr⟩ := p
      have il : i < xs.length := (List.getElem?_eq_some_iff.mp hi).1
      have ne : H' D ≠ none := by rw [hacc]; exact fun z => nomatch z
      have key := hs i x G H' n.up n.st hi (fun y H4 => ∃ acc, H4 D = some (.lst acc) ∧ acc.length < sizeLine ∧ ∃ G acc', Nw H H1 G (upd H4 D (.lst (acc ++ [y]))) ∧ G D = none ∧ (upd H4 D (.lst (acc ++ [y]))) D = some (.lst acc') ∧ acc'.length = i + 1 ∧ ∀ j y, acc'[j]? = some y → Rl j y G) fun y G' H2 n' r => by
        have n2 := n.trans n'
        have g2 : G' D = none := n'.fr D gD ne
        refine ⟨acc, n'.kp _ _ hacc, sz_lt (by omega), G', acc ++ [y], ⟨n2.up, n2.st.mut g2, n2.kp.mut hD, n2.fr⟩, g2, upd_same, by rw [List.length_append, hl]; rfl, fun j z hj => ?_⟩
        by_cases hji : j < acc.length
        · rw [List.getElem?_append_left hji] at hj
          exact hm j z G G' (hr j z hj) n'.up
        · have := (List.getElem?_eq_some_iff.mp hj).1
          rw [List.length_append, List.length_singleton] at this
          have ej : j = acc.length := by omega
          rw [ej, List.getElem?_append_right (Nat.le_refl _)] at hj
          simp at hj
          rw [ej, hl, ← hj]
          exact r
      exact key)
    (fun H' p => by
      obtain ⟨G, acc, n, gD, hacc, hl, hr⟩ := p
      refine q (.ref D) (upd G D (.lst acc)) H' ⟨n.up.trans (Ex.new gD), fun b u z => ?_, e1.trans n.kp, fun b z z1 => ?_⟩ ⟨D, acc, rfl, fresh_back (e0.trans e1) hD, upd_same, hl, fun j y hj => hm j y G _ (hr j y hj) (Ex.new gD)⟩
      · by_cases w : b = D
        · rw [w, upd_same] at z
          rw [w, hacc, z]
        · rw [upd_ne w] at z
          exact n.st _ _ z
      · have w : b ≠ D := fun w => z1 (by rw [w]; exact fresh_back e1 hD)
        rw [upd_ne w]
        exact n.fr b z (by
          cases y : H0 b with
          | none => exact absurd y z1
          | some o => rw [e1 _ _ y]; exact fun z => nomatch z))⟩
theorem en_lcL (Rl : Nat → V → Hp → Prop) (hm : ∀ i y G G', Rl i y G → Ex G G' → Rl i y G') (h : Ev tl σ H (.ref a)) (hx : SqL K H a xs) (hz : xs.length ≤ 40000)
    (hs : ∀ i x G H1, Ex H G → Ex G H1 → xs[i]? = some x → ∀ Q : VK, (∀ y G' H2, Nw G H1 G' H2 → Rl i y G' → Q y H2) → g x (wipe σ vs) H1 fun σ2 H2 => wipe σ2 vs = wipe σ vs ∧ te σ2 H2 Q) :
    EvN (tLc (iList K tl) g tYes te vs) σ H (IsL fun ys G => ys.length = xs.length ∧ ∀ i y, ys[i]? = some y → Rl i y G) :=
  (en_lcLF Rl hm h hx hz hs).imp fun v G _ h => by
    obtain ⟨p, ys, z1, _, z2, z3⟩ := h
    exact ⟨p, ys, z1, z2, z3⟩
theorem eg_new (h : EvN te σ B R) : EvG te σ B d R := fun H s Q q => h H s.ex Q fun v G H2 n r => q v G H2 n.up ⟨n.st, n.fr d s.no (by
  obtain ⟨xs, _, e⟩ := s.dr
  rw [e]
  exact fun z => nomatch z), s.dr.mono n.kp⟩ r
/-! targets -/
/-- (x, y) = a list of two; (x, y, z) = a list of three -/
theorem pg_row2 {X : Cx} {K : PySem.W.Frag} {x y : Str} {i j k : Nat} {p q pos : Pos} (hK : X.K = K) (hc : X.calm = true) (h1 : PG X (.Name x p) (gName i)) (h2 : PG X (.Name y q) (gName j)) : PG X (.Tuple [.Name x p, .Name y q] k pos) (gUnl K 2 (gCons (gName i) (gCons (gName j) gNil))) := by
  subst hK
  exact pg_unl hc (pgs_cons h1 (pgs_cons h2 pgs_nil))
theorem pg_row3 {X : Cx} {K : PySem.W.Frag} {x y z : Str} {i j l k : Nat} {p q r pos : Pos} (hK : X.K = K) (hc : X.calm = true) (h1 : PG X (.Name x p) (gName i)) (h2 : PG X (.Name y q) (gName j)) (h3 : PG X (.Name z r) (gName l)) :
    PG X (.Tuple [.Name x p, .Name y q, .Name z r] k pos) (gUnl K 3 (gCons (gName i) (gCons (gName j) (gCons (gName l) gNil)))) := by
  subst hK
  exact pg_unl hc (pgs_cons h1 (pgs_cons h2 (pgs_cons h3 pgs_nil)))
/-! statements -/
variable {D : Ends} {tz : TS}
theorem s_asgN {i : Nat} (h : EvN te σ H R) (k : ∀ v G H2, Nw H H G H2 → R v G → D.nx (σ.set i (some v)) H2) : tAsg te (gName i) D σ H := h H (Ex.refl H) _ fun v G H2 n r => k v G H2 n r
theorem q_asgN {i : Nat} (h : EvN te σ H R) (k : ∀ v G H2, Nw H H G H2 → R v G → tz D (σ.set i (some v)) H2) : tSeq (tAsg te (gName i)) tz D σ H := h H (Ex.refl H) _ fun v G H2 n r => k v G H2 n r
end
end KNew
-- E9
namespace K87
open PySem PySem.Spec PyProof.Rows L2 Evl KEv TL KDd KSq KSame KTxt KHot KSup KNew
/-! _add_sign -/
abbrev Sgn := Str × List Str × Str
def signFault (sorts : List Row) (done : List Str) (g : Sgn) : Option (EK × Str) :=
  if nameB (tl g.1) = false then some (.name, g.1) else if decide (g.1 ∈ done) = true then some (.twice, g.1) else if decide (4 < g.2.1.length) = true then some (.count, "arguments") else
    ((g.2.1 ++ [g.2.2]).find? fun k => !decide (k ∈ sorts.map (·.1))).map fun k => (.unk, k)
abbrev argK (sg : List (Sgn × Addr)) : List (Key × V) := dkv (fun p => p.1.1) (fun p => V.ref p.2) sg
abbrev resK (sg : List (Sgn × Addr)) : List (Key × V) := dkv (fun p => p.1.1) (fun p => V.str p.1.2.2) sg
theorem call_tuple_sq {X : Cx} : CallR X (.type "tuple") (rTupSq X.K) := call_tuple_of
theorem call_list_sq {X : Cx} : CallR X (.type "list") (rListS X.K) := call_list_of
section
variable {P : Program} {w : World} {K : PySem.W.Frag} {mg : Str → Option Value} {base : Heap} {ec fi : EK → Addr} {C : Addr} {σ : L2.St} {H : Hp} {ta tb ty td : TE}
theorem el_catN {xs ys : List V} (ha : EvL ta σ H xs) (hb : EvL tb σ H ys) (hz : xs.length + ys.length ≤ 1000000) : EvL (tOp rCat ta tb) σ H (xs ++ ys) := fun H1 e Q q =>
  ha H1 e _ fun p H2 hp e2 h2 => hb H2 (e.trans e2) _ fun r H3 hr e3 h3 => ⟨p, r, xs, ys, rfl, rfl, e3 _ _ h2, h3, Nat.le_trans hz (by decide), fun l hl => q l _ (fresh_back (e2.trans e3) hl) ((e2.trans e3).trans (Ex.new hl)) upd_same⟩
theorem q_dputU {D : Ends} {tz : TS} {a : Addr} {kvs : List (Key × V)} {k : Key} {xs : List V} (hv : EvU ta σ H xs) (hd : Ev td σ H (.ref a)) (hk : Ev ty σ H (kV k)) (h : H a = some (.dK kvs)) (hl : kvs.length ≤ 100000)
    (kk : ∀ t H1, H t = none → Ex H H1 → H1 t = some (.tup xs) → tz D σ (upd H1 a (.dK (putK kvs k (.ref t))))) : tSeq (sDPut td ty ta) tz D σ H :=
  hv H (Ex.refl H) _ fun t H1 ht e1 h1 => hd H1 e1 _ fun H2 e2 => hk H2 (e1.trans e2) _ fun H3 e3 => ⟨a, _, rfl, DPut.k (e3 _ _ (e2 _ _ (e1 _ _ h))) (Nat.lt_of_le_of_lt hl (by decide)), kk t H3 ht ((e1.trans e2).trans e3) (e3 _ _ (e2 _ _ h1))⟩
theorem eu_tupL {te : TE} {a : Addr} {xs : List V} (h : Ev te σ H (.ref a)) (hx : SqL K H a xs) : EvU (tCB (rTupSq K) (tCons te tNil)) σ H xs := fun H1 e Q q =>
  h H1 e _ fun H2 e2 => ⟨a, xs, rfl, .inl ⟨ex_l (e.trans e2) hx, fun l hl => q l _ (fresh_back e2 hl) (e2.trans (Ex.new hl)) upd_same⟩⟩
/-- the first that fails -/
theorem find_first {α : Type} {p : α → Bool} {x : α} : ∀ {l : List α} {i : Nat}, (∀ y ∈ l.take i, p y = false) → l[i]? = some x → p x = true → l.find? p = some x
  | [], _, _, h, _ => by simp at h
  | y :: l, 0, _, h, hx => by
    have e : y = x := by simpa using h
    rw [List.find?_cons, e, hx]
  | y :: l, i + 1, ha, h, hx => by
    rw [List.find?_cons, ha y (by simp)]
    exact find_first (i := i) (fun z hz => ha z (by rw [List.take_succ_cons]; exact List.mem_cons_of_mem _ hz)) (by simpa using h) hx
def spAddSign (ec : EK → Addr) (C : Addr) : Sp := fun vs H Q E => ∃ (a pc pa pr p : Addr) (sorts : List Row) (sg : List (Sgn × Addr)) (g : Sgn), vs = [.ref a, .str g.1, .ref p, .str g.2.2] ∧ AtI C H a [("_capitals", .ref pc), ("_arguments", .ref pa), ("_results", .ref pr)] ∧ pa ≠ pr ∧ pc ≠ pa ∧ pc ≠ pr ∧
  H pc = some (.dK (capK sorts)) ∧ H pa = some (.dK (argK sg)) ∧ H pr = some (.dK (resK sg)) ∧ H p = some (.lst (g.2.1.map V.str)) ∧ sg.length ≤ 100 ∧ sorts.length ≤ 100 ∧ g.1.length ≤ 100000 ∧ g.2.1.length ≤ 1000 ∧
  (∀ k s, signFault sorts (sg.map fun p => p.1.1) g = some (k, s) → RaisesE ec k s H E) ∧
  (signFault sorts (sg.map fun p => p.1.1) g = none → ∀ t H', H t = none → ExB [pa, pr] H H' → H' t = some (.tup (g.2.1.map V.str)) → H' pa = some (.dK (argK (sg ++ [(g, t)]))) → H' pr = some (.dK (resK (sg ++ [(g, t)]))) → Q .non H')
theorem scAddSign : FnScope ["self", "name", "arguments", "result", "kind"] ["self", "name", "arguments", "result"] (defScope (sSig 2)) := ⟨rfl, rfl, rfl, by decide +kernel, rfl, by decide +kernel, by decide +kernel⟩
theorem ok_add_sign {f fn : Addr} {fd fdn : FuncData} (F : Fun K "_add_sign" "Signature._add_sign" (sSig 2) f fd) (D : DefAt K mg 16 "is_name" ["text"] fn fdn) (N : Nm mg) (M : NmS mg) (S : SigC K C) (E0 : Errs P K mg ec fi) :
    FnOk P w K mg base (L2N.CX P w) 2 f fd ["self", "name", "arguments", "result"] (spAddSign ec C) := by
  have G : FnOk P w K mg base CX0 1 fn fdn ["text"] spIsName := ok_is_name D N
  refine okXN F scAddSign (fun vs H Q E h => ?_) (fun cdv A outer s H vs Q E hr h => ?_)
  · obtain ⟨a, pc, pa, pr, p, sorts, sg, g, rfl, _⟩ := h
    rfl
  · obtain ⟨a, pc, pa, pr, p, sorts, sg, g, rfl, hA, ne1, ne2, ne3, hpc, hpa, hpr, hp, hsg, hso, hn, hg, kf, kn⟩ := h
    have hu := hu_of hr
    have tk := L2N.takes_of (X := cxOf (L2N.CX P w) P w K mg base ["self", "name", "arguments", "result", "kind"] "Signature._add_sign" (defScope (sSig 2)) f cdv A outer s H E) rfl rfl rfl rfl
    refine ⟨_, pss_cons (ps_if (pt_not (pt_val (pe_call G hr (by rfl) D.g D.F.kp D.b .nil pass0 (pa_cons (pv 1) pa_nil)))) (pss_one (L2N.ps_raise rfl tk (pmk_sup (x := "BadName") (E0.t .name) (by decide) hr (pa_cons (pv 1) pa_nil) (by rfl)))) pss_nil)
      (pss_cons (ps_if (pt_cmp (pc_din hu (pv 1) (pe_fld (pv 0) (by rfl)))) (pss_one (L2N.ps_raise rfl tk (pmk_sup (x := "Twice") (E0.t .twice) (by decide) hr (pa_cons (pv 1) pa_nil) (by rfl)))) pss_nil)
      (pss_cons (ps_if (pt_cmpR op_gt (pe_callB call_len_seq (by rfl) N.len PySem.boot_len (pa_cons (pv 2) pa_nil)) pe_int (nomark _)) (pss_one (L2N.ps_raise rfl tk (pmk_sup (x := "BadCount") (E0.t .count) (by decide) hr (pa_cons pe_str pa_nil) (by rfl)))) pss_nil)
      (pss_cons (ps_for PassesOwn.leaving rfl (pi_list (pe_op op_cat (pe_callTy call_list_sq (by rfl) M.list (by decide +kernel) (pa_cons (pv 2) pa_nil)) (pe_lst (pa_cons (pv 3) pa_nil)))) (pg_name (i := 4) scAddSign.nd rfl (.inl rfl))
        (pss_one (ps_if (pt_cmp (pc_dnotin hu (pv 4) (pe_fld (pv 0) (by rfl)))) (pss_one (L2N.ps_raise rfl tk (pmk_sup (x := "UnknownName") (E0.t .unk) (by decide) hr (pa_cons (pv 4) pa_nil) (by rfl)))) pss_nil)))
      (pss_cons (ps_dput hu (pe_fld (pv 0) (by rfl)) (pv 1) (pe_callTy call_tuple_sq (by rfl) M.tuple (by decide +kernel) (pa_cons (pv 2) pa_nil)) rfl) (pss_one (ps_dput hu (pe_fld (pv 0) (by rfl)) (pv 1) (pv 3) rfl)))))), ?_⟩
    have memD : decide (g.1 ∈ sg.map fun p => p.1.1) = decide (g.1 ∈ sg.map fun p : Sgn × Addr => p.1.1) := rfl
    cases b1 : nameB (tl g.1) with
    | false => exact q_when (b := true) (et_is (et_not (et_B (ev_call (z := .bl (nameB (tl g.1))) (ea_cons (ev_var rfl) ea_nil) (fun H8 e8 Q q E => ⟨g.1, rfl, hn, fun H9 e9 => q H9 e9⟩)))) (by rw [b1]; rfl)) (fun _ H1 e1 => s_raise (ev_var rfl) rfl ((kf .name g.1 (by unfold signFault; rw [if_pos b1])).mono e1)) (fun z => by cases z)
    | true =>
      refine q_when (b := false) (et_is (et_not (et_B (ev_call (z := .bl (nameB (tl g.1))) (ea_cons (ev_var rfl) ea_nil) (fun H8 e8 Q q E => ⟨g.1, rfl, hn, fun H9 e9 => q H9 e9⟩)))) (by rw [b1]; rfl)) (fun z => by cases z) (fun _ H1 e1 => ?_)
      have u1 : ¬ nameB (tl g.1) = false := by rw [b1]; decide
      cases b2 : decide (g.1 ∈ sg.map fun p => p.1.1) with
      | true => exact q_when (b := true) (et_is (et_test (ev_din (k := Sum.inr g.1) (ev_var rfl) (ev_fld S (ev_var rfl) (hA.ex e1) (f := "_arguments") (v := .ref pa) (List.mem_cons_of_mem _ List.mem_cons_self) (by decide)) (e1 _ _ hpa))) (by rw [dkv_some]; exact b2)) (fun _ H2 e2 => s_raise (ev_var rfl) rfl ((kf .twice g.1 (by unfold signFault; rw [if_neg u1, if_pos b2])).mono (e1.trans e2))) (fun z => by cases z)
      | false =>
        refine q_when (b := false) (et_is (et_test (ev_din (k := Sum.inr g.1) (ev_var rfl) (ev_fld S (ev_var rfl) (hA.ex e1) (f := "_arguments") (v := .ref pa) (List.mem_cons_of_mem _ List.mem_cons_self) (by decide)) (e1 _ _ hpa))) (by rw [dkv_some]; exact b2)) (fun z => by cases z) (fun _ H2 e2 => ?_)
        have e2 := e1.trans e2
        have u2 : ¬ decide (g.1 ∈ sg.map fun p => p.1.1) = true := by rw [b2]; decide
        cases b3 : decide (4 < g.2.1.length) with
        | true => exact q_when (b := true) (et_is (et_test (ev_op (ev_len (ev_var rfl) (sq_of (e2 _ _ hp))) ev_c rv_I0)) (by rw [List.length_map, ← b3]; exact decide_eq_decide.mpr (by omega))) (fun _ H3 e3 => s_raise ev_c rfl ((kf .count "arguments" (by unfold signFault; rw [if_neg u1, if_neg u2, if_pos b3])).mono (e2.trans e3))) (fun z => by cases z)
        | false =>
          refine q_when (b := false) (et_is (et_test (ev_op (ev_len (ev_var rfl) (sq_of (e2 _ _ hp))) ev_c rv_I0)) (by rw [List.length_map, ← b3]; exact decide_eq_decide.mpr (by omega))) (fun z => by cases z) (fun _ H3 e3 => ?_)
          have e3 := e2.trans e3
          have u3 : ¬ decide (4 < g.2.1.length) = true := by rw [b3]; decide
          have hff : signFault sorts (sg.map fun p => p.1.1) g = ((g.2.1 ++ [g.2.2]).find? fun k => !decide (k ∈ sorts.map (·.1))).map fun k => (EK.unk, k) := by unfold signFault; rw [if_neg u1, if_neg u2, if_neg u3]
          refine q_forNLn (j := 4) (xs := g.2.1.map V.str ++ [V.str g.2.2]) (el_catN (el_list (ev_var rfl) (sq_of (e3 _ _ hp))) (el_lst (ea_cons (ev_var rfl) ea_nil) (by simp)) (by simp; omega))
            (fun q i σ' H' => (∃ u4, σ' = [some (.ref a), some (.str g.1), some (.ref p), some (.str g.2.2), u4]) ∧ Ex H H' ∧ H' q = some (.lst (g.2.1.map V.str ++ [V.str g.2.2])) ∧ ∀ k ∈ (g.2.1 ++ [g.2.2]).take i, decide (k ∈ sorts.map (·.1)) = true)
            (fun q H4 hq e4 h4 => ⟨⟨_, rfl⟩, e3.trans e4, h4, fun k hk => by simp at hk⟩) (fun q i σ' H' _ p => sq_of p.2.2.1) (fun q i x σ' H' hx p => ?_) (fun q σ' H' p => ?_)
          · obtain ⟨⟨u4, rfl⟩, e4, h4, hall⟩ := p
            have hx' : ((g.2.1 ++ [g.2.2]).map V.str)[i]? = some x := by rw [List.map_append]; exact hx
            rw [List.getElem?_map] at hx'
            cases ek : (g.2.1 ++ [g.2.2])[i]? with
            | none => rw [ek] at hx'; cases hx'
            | some k =>
              rw [ek] at hx'
              obtain rfl : V.str k = x := Option.some.inj hx'
              cases b5 : decide (k ∈ sorts.map (·.1)) with
              | false => exact s_when (b := true) (et_is (et_test (ev_dnotin (k := Sum.inr k) (ev_var rfl) (ev_fld S (ev_var rfl) (hA.ex e4) (f := "_capitals") (v := .ref pc) List.mem_cons_self (by decide)) (.inl (e4 _ _ hpc)))) (by rw [dkv_some, b5]; rfl)) (fun _ H5 e5 => s_raise (ev_var rfl) rfl ((kf .unk k (by rw [hff, find_first (fun y hy => by rw [hall y hy]; rfl) ek (by rw [b5]; rfl)]; rfl)).mono (e4.trans e5))) (fun z => by cases z)
              | true =>
                refine s_when (b := false) (et_is (et_test (ev_dnotin (k := Sum.inr k) (ev_var rfl) (ev_fld S (ev_var rfl) (hA.ex e4) (f := "_capitals") (v := .ref pc) List.mem_cons_self (by decide)) (.inl (e4 _ _ hpc)))) (by rw [dkv_some, b5]; rfl)) (fun z => by cases z) (fun _ H5 e5 => ⟨⟨_, rfl⟩, e4.trans e5, e5 _ _ h4, fun y hy => ?_⟩)
                rw [List.take_add_one, ek] at hy
                rcases List.mem_append.mp hy with z | z
                · exact hall y z
                · have z' : y = k := by simpa using z
                  rw [z']
                  exact b5
          · obtain ⟨⟨u4, rfl⟩, e4, h4, hall⟩ := p
            have hnone : signFault sorts (sg.map fun p => p.1.1) g = none := by
              rw [hff, List.find?_eq_none.mpr fun k hk => by
                rw [hall k (by rw [List.take_of_length_le (by simp)]; exact hk)]
                decide]
              rfl
            refine q_dputU (k := Sum.inr g.1) (eu_tupL (ev_var rfl) (sq_of (e4 _ _ hp))) (ev_fld S (ev_var rfl) (hA.ex e4) (f := "_arguments") (v := .ref pa) (List.mem_cons_of_mem _ List.mem_cons_self) (by decide)) (ev_var rfl) (e4 _ _ hpa) (by rw [dkv_len]; omega) fun t H5 ht e5 h5 => ?_
            have ht0 : H t = none := fresh_back e4 ht
            have e5 := e4.trans e5
            have put1 := dkv_put (k := fun p : Sgn × Addr => p.1.1) (v := fun p => V.ref p.2) (l := sg) (r := (g, t)) b2
            have put2 := dkv_put (k := fun p : Sgn × Addr => p.1.1) (v := fun p => V.str p.1.2.2) (l := sg) (r := (g, t)) b2
            have hA5 := (hA.ex e5).upd (u := .dK (argK (sg ++ [(g, t)]))) (e5 _ _ hpa) (fun _ _ _ z => nomatch z)
            have hpr5 : (L2.upd H5 pa (.dK (argK (sg ++ [(g, t)])))) pr = some (.dK (resK sg)) := by rw [upd_ne (Ne.symm ne1)]; exact e5 _ _ hpr
            have nta : t ≠ pa := fun z => by rw [z, hpa] at ht0; cases ht0
            have ntr : t ≠ pr := fun z => by rw [z, hpr] at ht0; cases ht0
            rw [show putK (argK sg) (Sum.inr g.1) (.ref t) = argK (sg ++ [(g, t)]) from put1]
            refine s_dput (k := Sum.inr g.1) (v := .str g.2.2) (ev_var rfl) (ev_fld S (ev_var rfl) hA5 (f := "_results") (v := .ref pr) (List.mem_cons_of_mem _ (List.mem_cons_of_mem _ List.mem_cons_self)) (by decide)) (ev_var rfl) hpr5 (by rw [dkv_len]; omega) fun H6 e6 => ?_
            refine kn hnone t _ ht0 (fun b o hb ho => ?_) ?_ ?_ ?_
            · have nb1 : b ≠ pa := fun z => hb (by rw [z]; exact List.mem_cons_self)
              have nb2 : b ≠ pr := fun z => hb (by rw [z]; exact List.mem_cons_of_mem _ List.mem_cons_self)
              rw [upd_ne nb2]
              exact e6 _ _ (by rw [upd_ne nb1]; exact e5 _ _ ho)
            · rw [upd_ne ntr]
              exact e6 _ _ (by rw [upd_ne nta]; exact h5)
            · rw [upd_ne ne1]
              exact e6 _ _ upd_same
            · rw [upd_same]
              exact congrArg (fun z => some (HO.dK z)) put2
end
end K87
-- E10
namespace K87
open PySem PySem.Spec PyProof.Rows L2 Evl KEv TL KDd KSq KSame KTxt KHot KSup KNew
/-! Signature.__init__ -/
section
variable {P : Program} {w : World} {K : PySem.W.Frag} {mg : Str → Option Value} {base : Heap} {ec fi : EK → Addr} {C : Addr} {σ : L2.St} {H : Hp}
theorem scInit : FnScope ["self", "sorts", "signs", "name", "capital", "arguments", "result"] ["self", "sorts", "signs"] (defScope (sSig 0)) := ⟨rfl, rfl, rfl, by decide +kernel, rfl, by decide +kernel, by decide +kernel⟩
/-- the first fault, the sorts one after another, then the signs -/
def sortsFrom : List Row → List Row → Option (EK × Str)
  | _, [] => none
  | done, r :: rs => match sortFault done r.1 r.2 with
    | some f => some f
    | none => sortsFrom (done ++ [r]) rs
def signsFrom (sorts : List Row) : List Str → List Sgn → Option (EK × Str)
  | _, [] => none
  | done, g :: gs => match signFault sorts done g with
    | some f => some f
    | none => signsFrom sorts (done ++ [g.1]) gs
def firstSorts (sorts : List Row) : Option (EK × Str) := if decide (1 ≤ sorts.length ∧ sorts.length ≤ 8) = true then sortsFrom [] sorts else some (.count, "sorts")
def firstFault (sorts : List Row) (signs : List Sgn) : Option (EK × Str) := match firstSorts sorts with
  | some f => some f
  | none => if decide (12 < signs.length) = true then some (.count, "signs") else signsFrom sorts [] signs
/-- (x, y) = a tuple of two; of three -/
theorem pg_rowT2 {X : Cx} {K : PySem.W.Frag} {x y : Str} {i j k : Nat} {p q pos : Pos} (hK : X.K = K) (hc : X.calm = true) (h1 : PG X (.Name x p) (gName i)) (h2 : PG X (.Name y q) (gName j)) : PG X (.Tuple [.Name x p, .Name y q] k pos) (gTup K 2 (gCons (gName i) (gCons (gName j) gNil))) := by
  subst hK
  exact pg_tup hc (pgs_cons h1 (pgs_cons h2 pgs_nil))
theorem pg_rowT3 {X : Cx} {K : PySem.W.Frag} {x y z : Str} {i j l k : Nat} {p q r pos : Pos} (hK : X.K = K) (hc : X.calm = true) (h1 : PG X (.Name x p) (gName i)) (h2 : PG X (.Name y q) (gName j)) (h3 : PG X (.Name z r) (gName l)) :
    PG X (.Tuple [.Name x p, .Name y q, .Name z r] k pos) (gTup K 3 (gCons (gName i) (gCons (gName j) (gCons (gName l) gNil)))) := by
  subst hK
  exact pg_tup hc (pgs_cons h1 (pgs_cons h2 (pgs_cons h3 pgs_nil)))
/-- rows that are given as tuples, in a list -/
def RowAt (H : Hp) (p : Addr) (r : Row) : Prop := H p = some (.tup [.str r.1, .str r.2])
def SgnAt (H : Hp) (p : Addr) (g : Sgn) : Prop := ∃ q, H p = some (.tup [.str g.1, .ref q, .str g.2.2]) ∧ H q = some (.lst (g.2.1.map V.str))
def RowsAt {α : Type} (f : Hp → Addr → α → Prop) (H : Hp) (b : Addr) (rs : List α) : Prop := ∃ ads : List Addr, H b = some (.lst (ads.map V.ref)) ∧ ads.length = rs.length ∧ ∀ (i : Nat) (p : Addr) (r : α), ads[i]? = some p → rs[i]? = some r → f H p r
/-- rows that stand as tuples -/
def TupsAt {α : Type} (f : Hp → Addr → α → Prop) (H : Hp) (b : Addr) (rs : List α) : Prop := ∃ ads : List Addr, H b = some (.tup (ads.map V.ref)) ∧ ads.length = rs.length ∧ ∀ (i : Nat) (p : Addr) (r : α), ads[i]? = some p → rs[i]? = some r → f H p r
def RowT (H : Hp) (p : Addr) (r : Row) : Prop := H p = some (.tup [.str r.1, .str r.2])
def SgnT (H : Hp) (p : Addr) (g : Sgn) : Prop := ∃ q, H p = some (.tup [.str g.1, .ref q, .str g.2.2]) ∧ H q = some (.tup (g.2.1.map V.str))
/-- a signature that was made -/
def MadeAt (C : Addr) (H : Hp) (a : Addr) (sorts : List Row) (signs : List Sgn) : Prop := ∃ (pc ps pa pr ts tg : Addr) (sg : List (Sgn × Addr)) (said : Str),
  AtI C H a [("_capitals", .ref pc), ("_sorts", .ref ps), ("_arguments", .ref pa), ("_results", .ref pr), ("sorts", .ref ts), ("signs", .ref tg), ("said", .str said)] ∧
  (∃ dx fs, H a = some (.ins C dx fs) ∧ ∀ m ∈ (["_add_sort", "_add_sign", "capital", "arguments", "result", "is_bare", "sort_of_word", "fault", "check"] : List Str), fs.lookup m = none) ∧
  H pc = some (.dK (capK sorts)) ∧ H ps = some (.dK (sorK sorts)) ∧ H pa = some (.dK (argK sg)) ∧ H pr = some (.dK (resK sg)) ∧ sg.map (·.1) = signs ∧ (∀ p ∈ sg, H p.2 = some (.tup (p.1.2.1.map V.str))) ∧
  TupsAt RowT H ts sorts ∧ TupsAt SgnT H tg signs ∧ (sorts.map (·.1))[0]? = some said
def RaisesB (ec : EK → Addr) (bs : List Addr) (k : EK) (s : Str) (H : Hp) (E : XK) : Prop := ∀ d H', H d = none → ExB bs H H' → H' d = some (.xd ((fl k).zip [V.str s]).reverse) → E (.ref (ec k)) (some d) H'
def spInit (ec : EK → Addr) (C : Addr) : Sp := fun vs H Q E => ∃ (a b c dx : Addr) (sorts : List Row) (signs : List Sgn), vs = [.ref a, .ref b, .ref c] ∧ H a = some (.ins C dx []) ∧ RowsAt RowAt H b sorts ∧ RowsAt SgnAt H c signs ∧
  sorts.length ≤ 1000 ∧ signs.length ≤ 1000 ∧ (∀ r ∈ sorts, r.1.length ≤ 1000 ∧ r.2.length ≤ 1000) ∧ (∀ g ∈ signs, g.1.length ≤ 1000 ∧ g.2.1.length ≤ 1000) ∧
  (∀ k s, firstFault sorts signs = some (k, s) → RaisesB ec [a] k s H E) ∧ (firstFault sorts signs = none → ∀ H', ExB [a] H H' → MadeAt C H' a sorts signs → Q .non H')
theorem q_fldD {D : Ends} {tz : TS} {ta tv : TE} {a dx : Addr} {fs : List (Str × V)} {f : Str} {kvs : List (Key × V)} (S : SigC K C) (hv : EvD tv σ H kvs) (ha : Ev ta σ H (.ref a)) (h : H a = some (.ins C dx fs)) (hf : f ∈ (["_capitals", "_sorts", "_arguments", "_results", "sorts", "signs", "said"] : List Str)) (hl : fs.length ≤ 900)
    (k : ∀ p H1, H p = none → Ex H H1 → H1 p = some (.dK kvs) → tz D σ (upd H1 a (.ins C dx (putF f (.ref p) fs)))) : tSeq (sFld K ta tv f) tz D σ H :=
  hv H (Ex.refl H) _ fun p H1 hp e1 h1 => ha H1 e1 _ fun H2 e2 => ⟨a, C, dx, fs, rfl, e2 _ _ (e1 _ _ h), S.cl, S.na f hf, by omega, k p H2 hp (e1.trans e2) (e2 _ _ h1)⟩
theorem q_fldU {D : Ends} {tz : TS} {ta tv : TE} {a dx : Addr} {fs : List (Str × V)} {f : Str} {xs : List V} (S : SigC K C) (hv : EvU tv σ H xs) (ha : Ev ta σ H (.ref a)) (h : H a = some (.ins C dx fs)) (hf : f ∈ (["_capitals", "_sorts", "_arguments", "_results", "sorts", "signs", "said"] : List Str)) (hl : fs.length ≤ 900)
    (k : ∀ p H1, H p = none → Ex H H1 → H1 p = some (.tup xs) → tz D σ (upd H1 a (.ins C dx (putF f (.ref p) fs)))) : tSeq (sFld K ta tv f) tz D σ H :=
  hv H (Ex.refl H) _ fun p H1 hp e1 h1 => ha H1 e1 _ fun H2 e2 => ⟨a, C, dx, fs, rfl, e2 _ _ (e1 _ _ h), S.cl, S.na f hf, by omega, k p H2 hp (e1.trans e2) (e2 _ _ h1)⟩
theorem s_fldV {D : Ends} {ta tv : TE} {a dx : Addr} {fs : List (Str × V)} {f : Str} {v : V} (S : SigC K C) (hv : Ev tv σ H v) (ha : Ev ta σ H (.ref a)) (h : H a = some (.ins C dx fs)) (hf : f ∈ (["_capitals", "_sorts", "_arguments", "_results", "sorts", "signs", "said"] : List Str)) (hl : fs.length ≤ 900)
    (k : ∀ H1, Ex H H1 → D.nx σ (upd H1 a (.ins C dx (putF f v fs)))) : sFld K ta tv f D σ H :=
  hv H (Ex.refl H) _ fun H1 e1 => ha H1 e1 _ fun H2 e2 => ⟨a, C, dx, fs, rfl, e2 _ _ (e1 _ _ h), S.cl, S.na f hf, by omega, k H2 (e1.trans e2)⟩
theorem RaisesB.up {k : EK} {s : Str} {bs : List Addr} {H' : Hp} {E : XK} (h : RaisesB ec bs k s H E) (e : ExB bs H H') (hf : ∀ d, H' d = none → H d = none) : RaisesE ec k s H' E := fun d H2 hd e2 h2 => h d H2 (hf d hd) (fun b o hb ho => e2 b o (e b o hb ho)) h2
theorem putF_len {f : Str} {v : V} {n : Nat} : ∀ {fs : List (Str × V)}, fs.length ≤ n → (putF f v fs).length ≤ n + 1
  | [], _ => by
    show 1 ≤ n + 1
    omega
  | (g, u) :: fs, h => by
    unfold putF
    split
    · simp only [List.length_cons] at h ⊢
      omega
    · have h' : fs.length ≤ n - 1 := by
        simp only [List.length_cons] at h
        omega
      have q := putF_len (f := f) (v := v) h'
      simp only [List.length_cons] at h ⊢
      omega
theorem ExB.upd {a : Addr} {G : Hp} {o : HO} (h : ExB [a] H G) : ExB [a] H (upd G a o) := fun b u hb hu => by
  rw [upd_ne (fun z => hb (by rw [z]; exact List.mem_cons_self))]
  exact h b u hb hu
theorem ExB.ex {bs : List Addr} {G G' : Hp} (h : ExB bs H G) (e : Ex G G') : ExB bs H G' := fun b u hb hu => e _ _ (h b u hb hu)
theorem from_step {done rs : List Row} {r : Row} (h : sortFault done r.1 r.2 = none) : sortsFrom done (r :: rs) = sortsFrom (done ++ [r]) rs := by
  rw [sortsFrom, h]
theorem sign_step {sorts : List Row} {done : List Str} {gs : List Sgn} {g : Sgn} (h : signFault sorts done g = none) : signsFrom sorts done (g :: gs) = signsFrom sorts (done ++ [g.1]) gs := by
  rw [signsFrom, h]
theorem sign_stop {sorts : List Row} {done : List Str} {gs : List Sgn} {g : Sgn} {f : EK × Str} (h : signFault sorts done g = some f) : signsFrom sorts done (g :: gs) = some f := by
  rw [signsFrom, h]
theorem from_stop {done rs : List Row} {r : Row} {f : EK × Str} (h : sortFault done r.1 r.2 = some f) : sortsFrom done (r :: rs) = some f := by
  rw [sortsFrom, h]
theorem drop_at {α : Type} {l : List α} {i : Nat} {x : α} (h : l[i]? = some x) : l.drop i = x :: l.drop (i + 1) := by
  obtain ⟨hi, e⟩ := List.getElem?_eq_some_iff.mp h
  rw [List.drop_eq_getElem_cons hi, e]
theorem take_at {α : Type} {l : List α} {i : Nat} {x : α} (h : l[i]? = some x) : l.take (i + 1) = l.take i ++ [x] := by
  rw [List.take_add_one, h]
  rfl
/-- what stands while __init__ adds the sorts -/
structure InitSt (C a dx pc ps pa pr : Addr) (fs : List (Str × V)) (done : List Row) (sg : List (Sgn × Addr)) (H H' : Hp) : Prop where
  ex : ExB [a] H H'
  at_ : H' a = some (.ins C dx fs)
  pc : H' pc = some (.dK (capK done))
  ps : H' ps = some (.dK (sorK done))
  pa : H' pa = some (.dK (argK sg))
  pr : H' pr = some (.dK (resK sg))
  tup : ∀ p ∈ sg, H' p.2 = some (.tup (p.1.2.1.map V.str))
/-- the four dicts, new and apart -/
structure Apart (H : Hp) (a pc ps pa pr : Addr) : Prop where
  n1 : H pc = none
  n2 : H ps = none
  n3 : H pa = none
  n4 : H pr = none
  a1 : pc ≠ a
  a2 : ps ≠ a
  a3 : pa ≠ a
  a4 : pr ≠ a
  d12 : pc ≠ ps
  d13 : pc ≠ pa
  d14 : pc ≠ pr
  d23 : ps ≠ pa
  d24 : ps ≠ pr
  d34 : pa ≠ pr
theorem q_fldN {D : Ends} {tz : TS} {ta tv : TE} {a dx : Addr} {fs : List (Str × V)} {f : Str} {R : V → Hp → Prop} (S : SigC K C) (hv : EvN tv σ H R) (ha : Ev ta σ H (.ref a)) (h : H a = some (.ins C dx fs)) (hf : f ∈ (["_capitals", "_sorts", "_arguments", "_results", "sorts", "signs", "said"] : List Str)) (hl : fs.length ≤ 900)
    (k : ∀ v G H1, Nw H H G H1 → R v G → tz D σ (upd H1 a (.ins C dx (putF f v fs)))) : tSeq (sFld K ta tv f) tz D σ H :=
  hv H (Ex.refl H) _ fun v G H1 n r => ha H1 n.kp _ fun H2 e2 => ⟨a, C, dx, fs, rfl, e2 _ _ (n.kp _ _ h), S.cl, S.na f hf, by omega, k v G H2 (n.go e2) r⟩
/-- tuples stay -/
def TSt (H H' : Hp) : Prop := ∀ p xs, H p = some (.tup xs) → H' p = some (.tup xs)
theorem TSt.upd {G H' : Hp} {a dx : Addr} {fs fs' : List (Str × V)} (e : Ex G H') (h : H' a = some (.ins C dx fs)) : TSt G (upd H' a (.ins C dx fs')) := fun p xs hp => by
  rw [upd_ne (fun z => by
    rw [← z, e _ _ hp] at h
    cases h)]
  exact e _ _ hp
theorem TupsAt.row {H' : Hp} {b : Addr} {rs : List Row} (h : TupsAt RowT H b rs) (e : TSt H H') : TupsAt RowT H' b rs := by
  obtain ⟨ads, h1, h2, h3⟩ := h
  exact ⟨ads, e _ _ h1, h2, fun i p r hp hr => e _ _ (h3 i p r hp hr)⟩
theorem TupsAt.sgn {H' : Hp} {b : Addr} {rs : List Sgn} (h : TupsAt SgnT H b rs) (e : TSt H H') : TupsAt SgnT H' b rs := by
  obtain ⟨ads, h1, h2, h3⟩ := h
  refine ⟨ads, e _ _ h1, h2, fun i p r hp hr => ?_⟩
  obtain ⟨q, h4, h5⟩ := h3 i p r hp hr
  exact ⟨q, e _ _ h4, e _ _ h5⟩
/-- refs, told one by one -/
theorem refsOf1 {α : Type} {f : Hp → Addr → α → Prop} {G : Hp} : ∀ {ys : List V} {rs : List α}, ys.length = rs.length → (∀ (i : Nat) (y : V), ys[i]? = some y → ∃ p r, y = V.ref p ∧ rs[i]? = some r ∧ f G p r) →
    ∃ ads : List Addr, ys = ads.map V.ref ∧ ads.length = rs.length ∧ ∀ (i : Nat) (p : Addr) (r : α), ads[i]? = some p → rs[i]? = some r → f G p r
  | [], [], _, _ => ⟨[], rfl, rfl, fun i p r hp _ => by simp at hp⟩
  | y :: ys, r :: rs, hl, h => by
    obtain ⟨p, r', ey, er, hp⟩ := h 0 y rfl
    obtain ⟨ads, e1, e2, e3⟩ := refsOf1 (ys := ys) (rs := rs) (by simpa using hl) fun i y hy => h (i + 1) y hy
    have er' : r = r' := by simpa using er
    refine ⟨p :: ads, by rw [ey, e1]; rfl, by simp [e2], fun i q s hq hs => ?_⟩
    cases i with
    | zero =>
      have z1 : p = q := by simpa using hq
      have z2 : r = s := by simpa using hs
      rw [← z1, ← z2, er']
      exact hp
    | succ i => exact e3 i q s (by simpa using hq) (by simpa using hs)
theorem ok_init {f f1 f2 fn : Addr} {fd fd1 fd2 fdn : FuncData} (F : Fun K "__init__" "Signature.__init__" (sSig 0) f fd) (F1 : Fun K "_add_sort" "Signature._add_sort" (sSig 1) f1 fd1) (F2 : Fun K "_add_sign" "Signature._add_sign" (sSig 2) f2 fd2)
    (m1 : Meth K C "_add_sort" f1) (m2 : Meth K C "_add_sign" f2) (D : DefAt K mg 16 "is_name" ["text"] fn fdn) (N : Nm mg) (M : NmS mg) (S : SigC K C) (E0 : Errs P K mg ec fi)
    (b1 : Binds K fd1 ["self", "name", "capital"] []) (b2 : Binds K fd2 ["self", "name", "arguments", "result"] []) :
    FnOk P w K mg base (L2N.CX P w) 3 f fd ["self", "sorts", "signs"] (spInit ec C) := by
  have G1 : FnOk P w K mg base (L2N.CX P w) 2 f1 fd1 ["self", "name", "capital"] (spAddSort ec C) := ok_add_sort F1 D N S E0
  have G2 : FnOk P w K mg base (L2N.CX P w) 2 f2 fd2 ["self", "name", "arguments", "result"] (spAddSign ec C) := ok_add_sign F2 D N M S E0
  refine okXN F scInit (fun vs H Q E h => ?_) (fun cdv A outer s H vs Q E hr h => ?_)
  · obtain ⟨a, b, c, dx, sorts, signs, rfl, _⟩ := h
    rfl
  · obtain ⟨a, b, c, dx, sorts, signs, rfl, hA, hb, hc, z1, z2, z3, z4, kf, kn⟩ := h
    have hu := hu_of hr
    have tk := L2N.takes_of (X := cxOf (L2N.CX P w) P w K mg base ["self", "sorts", "signs", "name", "capital", "arguments", "result"] "Signature.__init__" (defScope (sSig 0)) f cdv A outer s H E) rfl rfl rfl rfl
    have ps : Passes (L2N.CX P w) (cxOf (L2N.CX P w) P w K mg base ["self", "sorts", "signs", "name", "capital", "arguments", "result"] "Signature.__init__" (defScope (sSig 0)) f cdv A outer s H E) E := L2N.passes_call tk fun _ _ _ _ h => h
    refine ⟨_, pss_cons (ps_if (pt_not (pt_chain op_le op_le pe_int (pe_callB call_len_seq (by rfl) N.len PySem.boot_len (pa_cons (pv 1) pa_nil)) pe_int)) (pss_one (L2N.ps_raise rfl tk (pmk_sup (x := "BadCount") (E0.t .count) (by decide) hr (pa_cons pe_str pa_nil) (by rfl)))) pss_nil)
      (pss_cons (ps_fld (pv 0) pe_dnewK rfl) (pss_cons (ps_fld (pv 0) pe_dnewK rfl) (pss_cons (ps_fld (pv 0) pe_dnewK rfl) (pss_cons (ps_fld (pv 0) pe_dnewK rfl)
      (pss_cons (ps_for PassesOwn.leaving rfl (pi_list (pv 1)) (pg_tup rfl (pgs_cons (pg_name (i := 3) scInit.nd rfl (.inl rfl)) (pgs_cons (pg_name (i := 4) scInit.nd rfl (.inl rfl)) pgs_nil)))
        (pss_one (ps_expr (pe_meth (pv 0) S.cl m1 G1 hr b1 .nil ps (pa_cons (pv 3) (pa_cons (pv 4) pa_nil))))))
      (pss_cons (ps_if (pt_cmpR op_gt (pe_callB call_len_seq (by rfl) N.len PySem.boot_len (pa_cons (pv 2) pa_nil)) pe_int (nomark _)) (pss_one (L2N.ps_raise rfl tk (pmk_sup (x := "BadCount") (E0.t .count) (by decide) hr (pa_cons pe_str pa_nil) (by rfl)))) pss_nil)
      (pss_cons (ps_for PassesOwn.leaving rfl (pi_list (pv 2)) (pg_tup rfl (pgs_cons (pg_name (i := 3) scInit.nd rfl (.inl rfl)) (pgs_cons (pg_name (i := 5) scInit.nd rfl (.inl rfl)) (pgs_cons (pg_name (i := 6) scInit.nd rfl (.inl rfl)) pgs_nil))))
        (pss_one (ps_expr (pe_meth (pv 0) S.cl m2 G2 hr b2 .nil ps (pa_cons (pv 3) (pa_cons (pv 5) (pa_cons (pv 6) pa_nil)))))))
      (pss_cons (ps_fld (pv 0) (pe_callTy (T := "tuple") (call_tupK (K := K) rfl) (by rfl) M.tuple (by decide +kernel) (pa_cons (pe_lc (own := [("name", 3), ("capital", 4)]) rfl scInit.nd (pi_list (pv 1)) (blkOk_by (own := [("name", 3), ("capital", 4)]) (N := ["self", "sorts", "signs", "name", "capital", "arguments", "result"]) (sc := defScope (sSig 0)) (by decide +kernel)) (fun _ _ _ _ _ => pg_rowT2 (K := K) rfl rfl (pg_name (i := 3) scInit.nd rfl (.inl rfl) (hf := .inr rfl)) (pg_name (i := 4) scInit.nd rfl (.inl rfl) (hf := .inr rfl))) (fun _ _ _ _ _ => pts_nil) (fun _ _ _ _ _ => by exact pe_tup (pa_cons (pv 3) (pa_cons (pv 4) pa_nil)))) pa_nil)) rfl)
      (pss_cons (ps_fld (pv 0) (pe_callTy (T := "tuple") (call_tupK (K := K) rfl) (by rfl) M.tuple (by decide +kernel) (pa_cons (pe_lc (own := [("name", 3), ("arguments", 5), ("result", 6)]) rfl scInit.nd (pi_list (pv 2)) (blkOk_by (own := [("name", 3), ("arguments", 5), ("result", 6)]) (N := ["self", "sorts", "signs", "name", "capital", "arguments", "result"]) (sc := defScope (sSig 0)) (by decide +kernel)) (fun _ _ _ _ _ => pg_rowT3 (K := K) rfl rfl (pg_name (i := 3) scInit.nd rfl (.inl rfl) (hf := .inr rfl)) (pg_name (i := 5) scInit.nd rfl (.inl rfl) (hf := .inr rfl)) (pg_name (i := 6) scInit.nd rfl (.inl rfl) (hf := .inr rfl))) (fun _ _ _ _ _ => pts_nil) (fun _ _ _ _ _ => by exact pe_tup (pa_cons (pv 3) (pa_cons (pe_callTy (T := "tuple") (call_tupK (K := K) rfl) (by rfl) M.tuple (by decide +kernel) (pa_cons (pv 5) pa_nil)) (pa_cons (pv 6) pa_nil))))) pa_nil)) rfl)
      (pss_one (ps_fld (pv 0) (pe_ix (r := rIx K) ix_seq (pe_ix (r := rIx K) ix_seq (pe_fld (pv 0) (by rfl)) pe_int (fun _ _ => rfl)) pe_int (fun _ _ => rfl)) rfl))))))))))), ?_⟩
    obtain ⟨ads, hbl, hbn, hrow⟩ := id hb
    obtain ⟨gds, hcl, hcn, hsgn⟩ := id hc
    have lenS : (ads.map V.ref).length = sorts.length := by rw [List.length_map, hbn]
    cases c1 : decide (1 ≤ sorts.length ∧ sorts.length ≤ 8) with
    | false =>
      refine q_when (b := true) (et_is (et_not (et_chain ev_c (ev_len (xs := ads.map V.ref) (ev_var rfl) (sq_of hbl)) rv_I0 (fun _ => ev_c) (fun _ => rv_I0))) ?_) (fun _ H1 e1 => s_raise ev_c rfl ((kf .count "sorts" (by unfold firstFault firstSorts; rw [c1]; rfl)).up (fun b o _ ho => e1 b o ho) fun d hd => fresh_back e1 hd)) (fun z => by cases z)
      rw [lenS]
      have q := of_decide_eq_false c1
      by_cases q1 : 1 ≤ sorts.length
      · have q2 : ¬ ((sorts.length : Int) ≤ 8) := by omega
        have q1' : (1 : Int) ≤ (sorts.length : Int) := by omega
        simp [q1', q2]
      · have q1' : ¬ ((1 : Int) ≤ (sorts.length : Int)) := by omega
        simp [q1']
    | true =>
      have c1' := of_decide_eq_true c1
      refine q_when (b := false) (et_is (et_not (et_chain ev_c (ev_len (xs := ads.map V.ref) (ev_var rfl) (sq_of hbl)) rv_I0 (fun _ => ev_c) (fun _ => rv_I0))) ?_) (fun z => by cases z) (fun _ H1 e1 => ?_)
      · rw [lenS]
        have q1' : (1 : Int) ≤ (sorts.length : Int) := by omega
        have q2' : ((sorts.length : Int) ≤ 8) := by omega
        simp [q1', q2']
      refine q_fldD (f := "_capitals") S ed_new (ev_var rfl) (e1 _ _ hA) (by decide) (by decide) fun pc H2 np1 e2 hpc => ?_
      have na1 : pc ≠ a := fun z => by rw [z, e1 _ _ hA] at np1; cases np1
      refine q_fldD (f := "_sorts") S ed_new (ev_var rfl) upd_same (by decide) (Nat.le_trans (putF_len (Nat.le_refl 0)) (by decide)) fun ps H3 np2 e3 hps => ?_
      have na2 : ps ≠ a := fun z => by rw [z, upd_same] at np2; cases np2
      rw [upd_ne na2] at np2
      have d12 : pc ≠ ps := fun z => by rw [← z, hpc] at np2; cases np2
      refine q_fldD (f := "_arguments") S ed_new (ev_var rfl) upd_same (by decide) (Nat.le_trans (putF_len (putF_len (Nat.le_refl 0))) (by decide)) fun pa H4 np3 e4 hpa => ?_
      have na3 : pa ≠ a := fun z => by rw [z, upd_same] at np3; cases np3
      rw [upd_ne na3] at np3
      have hpc3 : H3 pc = some (.dK []) := e3 _ _ (by rw [upd_ne na1]; exact hpc)
      have d13 : pc ≠ pa := fun z => by rw [← z, hpc3] at np3; cases np3
      have d23 : ps ≠ pa := fun z => by rw [← z, hps] at np3; cases np3
      refine q_fldD (f := "_results") S ed_new (ev_var rfl) upd_same (by decide) (Nat.le_trans (putF_len (putF_len (putF_len (Nat.le_refl 0)))) (by decide)) fun pr H5 np4 e5 hpr => ?_
      have na4 : pr ≠ a := fun z => by rw [z, upd_same] at np4; cases np4
      rw [upd_ne na4] at np4
      have hpc4 : H4 pc = some (.dK []) := e4 _ _ (by rw [upd_ne na1]; exact hpc3)
      have hps4 : H4 ps = some (.dK []) := e4 _ _ (by rw [upd_ne na2]; exact hps)
      have d14 : pc ≠ pr := fun z => by rw [← z, hpc4] at np4; cases np4
      have d24 : ps ≠ pr := fun z => by rw [← z, hps4] at np4; cases np4
      have d34 : pa ≠ pr := fun z => by rw [← z, hpa] at np4; cases np4
      have x1 : ExB [a] H H1 := fun b o _ ho => e1 b o ho
      have x2 := ((((((x1.ex e2).upd (o := .ins C dx (putF "_capitals" (.ref pc) []))).ex e3).upd (o := .ins C dx (putF "_sorts" (.ref ps) (putF "_capitals" (.ref pc) [])))).ex e4).upd (o := .ins C dx (putF "_arguments" (.ref pa) (putF "_sorts" (.ref ps) (putF "_capitals" (.ref pc) []))))).ex e5
      have hA5 := e5 _ _ (upd_same (H := H4) (a := a) (o := .ins C dx (putF "_arguments" (.ref pa) (putF "_sorts" (.ref ps) (putF "_capitals" (.ref pc) [])))))
      have nH : ∀ {p : Addr} {G : Hp}, p ≠ a → ExB [a] H G → G p = none → H p = none := fun {p G} hp hx hg => by
        cases q : H p with
        | none => rfl
        | some o =>
          rw [hx p o (fun z => hp (List.mem_singleton.mp z)) q] at hg
          cases hg
      have ap : Apart H a pc ps pa pr := ⟨nH na1 x1 np1, nH na2 (x1.ex e2) np2, nH na3 (((x1.ex e2).upd (o := .ins C dx (putF "_capitals" (.ref pc) []))).ex e3) np3,
        nH na4 (((((x1.ex e2).upd (o := .ins C dx (putF "_capitals" (.ref pc) []))).ex e3).upd (o := .ins C dx (putF "_sorts" (.ref ps) (putF "_capitals" (.ref pc) [])))).ex e4) np4, na1, na2, na3, na4, d12, d13, d14, d23, d24, d34⟩
      have st0 : InitSt C a dx pc ps pa pr (putF "_results" (.ref pr) (putF "_arguments" (.ref pa) (putF "_sorts" (.ref ps) (putF "_capitals" (.ref pc) [])))) [] [] H (upd H5 a (.ins C dx (putF "_results" (.ref pr) (putF "_arguments" (.ref pa) (putF "_sorts" (.ref ps) (putF "_capitals" (.ref pc) [])))))) :=
        ⟨x2.upd, upd_same, by rw [upd_ne na1]; exact e5 _ _ (by rw [upd_ne na1]; exact hpc4), by rw [upd_ne na2]; exact e5 _ _ (by rw [upd_ne na2]; exact hps4), by rw [upd_ne na3]; exact e5 _ _ (by rw [upd_ne na3]; exact hpa), by rw [upd_ne na4]; exact hpr, fun p hp => by cases hp⟩
      obtain ⟨fs4, hfs⟩ : ∃ fs4, fs4 = putF "_results" (.ref pr) (putF "_arguments" (.ref pa) (putF "_sorts" (.ref ps) (putF "_capitals" (.ref pc) []))) := ⟨_, rfl⟩
      rw [← hfs] at st0 ⊢
      have l1 : fs4.lookup ("_capitals" : Str) = some (.ref pc) := by rw [hfs]; with_unfolding_all rfl
      have l2 : fs4.lookup ("_sorts" : Str) = some (.ref ps) := by rw [hfs]; with_unfolding_all rfl
      have l3 : fs4.lookup ("_arguments" : Str) = some (.ref pa) := by rw [hfs]; with_unfolding_all rfl
      have l4 : fs4.lookup ("_results" : Str) = some (.ref pr) := by rw [hfs]; with_unfolding_all rfl
      have l5 : ∀ m ∈ (["_add_sort", "_add_sign", "capital", "arguments", "result", "is_bare", "sort_of_word", "fault", "check"] : List Str), fs4.lookup m = none := by
        intro m hm
        have no : ∀ m ∈ (["_add_sort", "_add_sign", "capital", "arguments", "result", "is_bare", "sort_of_word", "fault", "check"] : List Str), m ≠ "_results" ∧ m ≠ "_arguments" ∧ m ≠ "_sorts" ∧ m ≠ "_capitals" := by decide
        obtain ⟨q1, q2, q3, q4⟩ := no m hm
        rw [hfs, lookup_putF, if_neg q1, lookup_putF, if_neg q2, lookup_putF, if_neg q3, lookup_putF, if_neg q4]
        rfl
      have l6 : fs4.length ≤ 4 := by rw [hfs]; exact putF_len (putF_len (putF_len (putF_len (Nat.le_refl 0))))
      have ff0 : firstSorts sorts = sortsFrom [] sorts := by unfold firstSorts; rw [c1]; rfl
      -- the sorts
      refine q_forL (a := b) (xs := ads.map V.ref) (ev_var rfl) (sq_of (st0.ex b _ (fun z => by rw [List.mem_singleton.mp z, hA] at hbl; cases hbl) hbl))
        (fun i σ' H' => (∃ u3 u4 u5 u6, σ' = [some (.ref a), some (.ref b), some (.ref c), u3, u4, u5, u6]) ∧ InitSt C a dx pc ps pa pr fs4 (sorts.take i) [] H H' ∧ sortsFrom [] sorts = sortsFrom (sorts.take i) (sorts.drop i))
        (fun H6 e6 => ⟨⟨_, _, _, _, rfl⟩, ⟨st0.ex.ex e6, e6 _ _ st0.at_, e6 _ _ st0.pc, e6 _ _ st0.ps, e6 _ _ st0.pa, e6 _ _ st0.pr, fun p hp => by cases hp⟩, rfl⟩)
        (fun i σ' H' _ p => sq_of (p.2.1.ex b _ (fun z => by rw [List.mem_singleton.mp z, hA] at hbl; cases hbl) hbl)) (fun i x σ' H' hx p => ?_) (fun σ' H' p => ?_)
      · obtain ⟨⟨u3, u4, u5, u6, rfl⟩, st, hff⟩ := p
        rw [List.getElem?_map] at hx
        cases ep : ads[i]? with
        | none => rw [ep] at hx; cases hx
        | some p =>
          rw [ep] at hx
          obtain rfl : V.ref p = x := Option.some.inj hx
          have hi : i < sorts.length := by rw [← hbn]; exact (List.getElem?_eq_some_iff.mp ep).1
          obtain ⟨r, er⟩ : ∃ r, sorts[i]? = some r := ⟨_, List.getElem?_eq_getElem hi⟩
          have hr1 : H p = some (.tup [.str r.1, .str r.2]) := hrow i p r ep er
          have hp' : H' p = some (.tup [.str r.1, .str r.2]) := st.ex p _ (fun z => by rw [List.mem_singleton.mp z, hA] at hr1; cases hr1) hr1
          have zr := z3 r (List.mem_of_getElem? er)
          refine ⟨p, [.str r.1, .str r.2], rfl, st_of hp', rfl, _, _, rfl, _, _, rfl, rfl, ?_⟩
          refine ⟨.ref a, rfl, a, dx, fs4, rfl, st.at_, l5 _ (by decide), .str r.1, rfl, .str r.2, rfl, ?_⟩
          have e8 := Ex.refl H'
          have x8 : ExB [a] H H' := st.ex
          refine ⟨a, pc, ps, sorts.take i, r.1, r.2, rfl, ⟨dx, fs4, e8 _ _ st.at_, fun m hm => ?_⟩, d12, e8 _ _ st.pc, e8 _ _ st.ps, by rw [List.length_take]; omega, by omega, by omega, fun k s hk => ?_, fun hk H9 x9 hc9 hs9 => ?_⟩
          · simp only [List.mem_cons, List.not_mem_nil, or_false] at hm
            rcases hm with rfl | rfl
            · exact l1
            · exact l2
          · have hF : firstFault sorts signs = some (k, s) := by
              unfold firstFault
              rw [ff0, hff, drop_at er, from_stop hk]
            refine (kf k s hF).up x8 fun d hd => ?_
            cases q : H d with
            | none => rfl
            | some o =>
              by_cases hda : d = a
              · rw [hda, st.at_] at hd
                cases hd
              · rw [x8 d o (fun z => hda (List.mem_singleton.mp z)) q] at hd
                cases hd
          · refine ⟨⟨_, _, _, _, rfl⟩, ⟨fun b o hb ho => ?_, ?_, ?_, ?_, ?_, ?_, fun p hp => by cases hp⟩, ?_⟩
            · refine x9 b o (fun z => ?_) (st.ex b o hb ho)
              rcases List.mem_cons.mp z with z | z
              · rw [z, ap.n1] at ho; cases ho
              · rw [List.mem_singleton.mp z, ap.n2] at ho; cases ho
            · exact x9 a _ (fun z => by
                rcases List.mem_cons.mp z with z | z
                · exact na1 z.symm
                · exact na2 (List.mem_singleton.mp z).symm) st.at_
            · rw [take_at er]; exact hc9
            · rw [take_at er]; exact hs9
            · exact x9 pa _ (fun z => by
                rcases List.mem_cons.mp z with z | z
                · exact d13 z.symm
                · exact d23 (List.mem_singleton.mp z).symm) st.pa
            · exact x9 pr _ (fun z => by
                rcases List.mem_cons.mp z with z | z
                · exact d14 z.symm
                · exact d24 (List.mem_singleton.mp z).symm) st.pr
            · rw [hff, drop_at er, from_step hk, take_at er]
      · obtain ⟨⟨u3, u4, u5, u6, rfl⟩, st, hff⟩ := p
        have hff' : firstSorts sorts = none := by
          rw [ff0, hff, List.drop_of_length_le (by rw [List.length_map, hbn]; omega)]
          rfl
        rw [List.length_map, hbn, List.take_length] at st
        have hcl' : H' c = some (.lst (gds.map V.ref)) := st.ex c _ (fun z => by rw [List.mem_singleton.mp z, hA] at hcl; cases hcl) hcl
        have lenG : (gds.map V.ref).length = signs.length := by rw [List.length_map, hcn]
        have upE : ∀ {k s H6}, ExB [a] H H6 → (∃ o, H6 a = some o) → firstFault sorts signs = some (k, s) → RaisesE ec k s H6 E := fun {k s H6} x6 ha hF => (kf k s hF).up x6 fun d hd => by
          cases q : H d with
          | none => rfl
          | some o =>
            by_cases hda : d = a
            · obtain ⟨u, hu⟩ := ha
              rw [hda, hu] at hd
              cases hd
            · rw [x6 d o (fun z => hda (List.mem_singleton.mp z)) q] at hd
              cases hd
        cases c2 : decide (12 < signs.length) with
        | true =>
          exact q_when (b := true) (et_is (et_test (ev_op (ev_len (xs := gds.map V.ref) (ev_var rfl) (sq_of hcl')) ev_c rv_I0)) (by rw [lenG, ← c2]; exact decide_eq_decide.mpr (by omega))) (fun _ H6 e6 => s_raise ev_c rfl (upE (st.ex.ex e6) ⟨_, e6 _ _ st.at_⟩ (by unfold firstFault; rw [hff', c2]; rfl))) (fun z => by cases z)
        | false =>
          refine q_when (b := false) (et_is (et_test (ev_op (ev_len (xs := gds.map V.ref) (ev_var rfl) (sq_of hcl')) ev_c rv_I0)) (by rw [lenG, ← c2]; exact decide_eq_decide.mpr (by omega))) (fun z => by cases z) (fun _ H6 e6 => ?_)
          have st6 : InitSt C a dx pc ps pa pr fs4 sorts [] H H6 := ⟨st.ex.ex e6, e6 _ _ st.at_, e6 _ _ st.pc, e6 _ _ st.ps, e6 _ _ st.pa, e6 _ _ st.pr, fun p hp => by cases hp⟩
          have hF0 : firstFault sorts signs = signsFrom sorts [] signs := by
            unfold firstFault
            rw [hff', c2]
            rfl
          have cin : ∀ {G : Hp}, ExB [a] H G → G c = some (.lst (gds.map V.ref)) := fun {G} x => x c _ (fun z => by rw [List.mem_singleton.mp z, hA] at hcl; cases hcl) hcl
          refine q_forL (a := c) (xs := gds.map V.ref) (ev_var rfl) (sq_of (cin st6.ex))
            (fun i σ' H' => (∃ u3 u4 u5 u6, σ' = [some (.ref a), some (.ref b), some (.ref c), u3, u4, u5, u6]) ∧ ∃ sg, InitSt C a dx pc ps pa pr fs4 sorts sg H H' ∧ sg.map (·.1) = signs.take i ∧ signsFrom sorts [] signs = signsFrom sorts (sg.map fun p => p.1.1) (signs.drop i))
            (fun H7 e7 => ⟨⟨_, _, _, _, rfl⟩, [], ⟨st6.ex.ex e7, e7 _ _ st6.at_, e7 _ _ st6.pc, e7 _ _ st6.ps, e7 _ _ st6.pa, e7 _ _ st6.pr, fun p hp => by cases hp⟩, rfl, rfl⟩)
            (fun i σ' H' _ p => by
              obtain ⟨_, sg, st, _⟩ := p
              exact sq_of (cin st.ex)) (fun i x σ' H' hx p => ?_) (fun σ' H' p => ?_)
          · obtain ⟨⟨u3, u4, u5, u6, rfl⟩, sg, st, hsg, hff2⟩ := p
            rw [List.getElem?_map] at hx
            cases ep : gds[i]? with
            | none => rw [ep] at hx; cases hx
            | some p =>
              rw [ep] at hx
              obtain rfl : V.ref p = x := Option.some.inj hx
              have hi : i < signs.length := by rw [← hcn]; exact (List.getElem?_eq_some_iff.mp ep).1
              obtain ⟨g, er⟩ : ∃ g, signs[i]? = some g := ⟨_, List.getElem?_eq_getElem hi⟩
              obtain ⟨q, hp1, hq1⟩ := hsgn i p g ep er
              have hp' := st.ex p _ (fun z => by rw [List.mem_singleton.mp z, hA] at hp1; cases hp1) hp1
              have hq' := st.ex q _ (fun z => by rw [List.mem_singleton.mp z, hA] at hq1; cases hq1) hq1
              have zg := z4 g (List.mem_of_getElem? er)
              have lsg : sg.length ≤ 12 := by
                have := congrArg List.length hsg
                rw [List.length_map, List.length_take] at this
                have := of_decide_eq_false c2
                omega
              refine ⟨p, [.str g.1, .ref q, .str g.2.2], rfl, st_of hp', rfl, _, _, rfl, _, _, rfl, _, _, rfl, rfl, ?_⟩
              refine ⟨.ref a, rfl, a, dx, fs4, rfl, st.at_, l5 _ (by decide), .str g.1, rfl, .ref q, rfl, .str g.2.2, rfl, ?_⟩
              refine ⟨a, pc, pa, pr, q, sorts, sg, g, rfl, ⟨dx, fs4, st.at_, fun m hm => ?_⟩, d34, d13, d14, st.pc, st.pa, st.pr, hq', by omega, by omega, by omega, zg.2, fun k s hk => ?_, fun hk t H9 ht x9 ht9 ha9 hr9 => ?_⟩
              · simp only [List.mem_cons, List.not_mem_nil, or_false] at hm
                rcases hm with rfl | rfl | rfl
                · exact l1
                · exact l3
                · exact l4
              · exact upE st.ex ⟨_, st.at_⟩ (by rw [hF0, hff2, drop_at er, sign_stop hk])
              · refine ⟨⟨_, _, _, _, rfl⟩, sg ++ [(g, t)], ⟨fun b o hb ho => ?_, ?_, ?_, ?_, ha9, hr9, fun y hy => ?_⟩, ?_, ?_⟩
                · refine x9 b o (fun z => ?_) (st.ex b o hb ho)
                  rcases List.mem_cons.mp z with z | z
                  · rw [z, ap.n3] at ho; cases ho
                  · rw [List.mem_singleton.mp z, ap.n4] at ho; cases ho
                · exact x9 a _ (fun z => by
                    rcases List.mem_cons.mp z with z | z
                    · exact na3 z.symm
                    · exact na4 (List.mem_singleton.mp z).symm) st.at_
                · exact x9 pc _ (fun z => by
                    rcases List.mem_cons.mp z with z | z
                    · exact d13 z
                    · exact d14 (List.mem_singleton.mp z)) st.pc
                · exact x9 ps _ (fun z => by
                    rcases List.mem_cons.mp z with z | z
                    · exact d23 z
                    · exact d24 (List.mem_singleton.mp z)) st.ps
                · rcases List.mem_append.mp hy with z | z
                  · have h0 := st.tup y z
                    refine x9 y.2 _ (fun w => ?_) h0
                    rcases List.mem_cons.mp w with w | w
                    · rw [w, st.pa] at h0; cases h0
                    · rw [List.mem_singleton.mp w, st.pr] at h0; cases h0
                  · rw [List.mem_singleton.mp z]
                    exact ht9
                · rw [List.map_append, hsg, take_at er]
                  rfl
                · rw [hff2, drop_at er, sign_step hk, List.map_append]
                  rfl
          · obtain ⟨⟨u3, u4, u5, u6, rfl⟩, sg, st, hsg, hff2⟩ := p
            have hnone : firstFault sorts signs = none := by
              rw [hF0, hff2, List.drop_of_length_le (by rw [List.length_map, hcn]; omega)]
              rfl
            have hsg' : sg.map (·.1) = signs := by rw [hsg, List.take_of_length_le (by rw [List.length_map, hcn]; omega)]
            have bin : ∀ {G : Hp}, ExB [a] H G → G b = some (.lst (ads.map V.ref)) := fun {G} x => x b _ (fun z => by rw [List.mem_singleton.mp z, hA] at hbl; cases hbl) hbl
            have na : ∀ {q : Addr} {o : HO}, H q = some o → (∀ D dx fs, o ≠ .ins D dx fs) → q ∉ [a] := fun {q o} hq ho z => by
              rw [List.mem_singleton.mp z, hA] at hq
              exact ho _ _ _ (Option.some.inj hq).symm
            refine q_fldN (f := "sorts") S (en_tupL (Rs := fun ys G => ys.length = (ads.map V.ref).length ∧ ∀ i y, ys[i]? = some y → ∃ p r, y = V.ref p ∧ sorts[i]? = some r ∧ RowT G p r) (fun ys G G' h e => ⟨h.1, fun i y hy => ?_⟩)
              (en_lcL (xs := ads.map V.ref) (fun i y G => ∃ p r, y = V.ref p ∧ sorts[i]? = some r ∧ RowT G p r) (fun i y G G' h e => ?_) (ev_var rfl) (sq_of (bin st.ex)) (by rw [lenS]; omega) (fun i x G H1 eG eH hx Q q => ?_))) (ev_var rfl) st.at_ (by decide) (by omega) fun v G H6 n r => ?_
            · obtain ⟨p, r, z1, z2, z3⟩ := h.2 i y hy
              exact ⟨p, r, z1, z2, e _ _ z3⟩
            · obtain ⟨p, r, z1, z2, z3⟩ := h
              exact ⟨p, r, z1, z2, e _ _ z3⟩
            · rw [List.getElem?_map] at hx
              cases ep : ads[i]? with
              | none => rw [ep] at hx; cases hx
              | some p =>
                rw [ep] at hx
                obtain rfl : V.ref p = x := Option.some.inj hx
                have hi : i < sorts.length := by rw [← hbn]; exact (List.getElem?_eq_some_iff.mp ep).1
                obtain ⟨r, er⟩ : ∃ r, sorts[i]? = some r := ⟨_, List.getElem?_eq_getElem hi⟩
                have hr1 : H p = some (.tup [.str r.1, .str r.2]) := hrow i p r ep er
                have hp' := eH _ _ (eG _ _ (st.ex p _ (na hr1 (fun _ _ _ z => nomatch z)) hr1))
                exact ⟨p, [.str r.1, .str r.2], rfl, st_of hp', rfl, _, _, rfl, _, _, rfl, rfl, rfl, en_eu (eu_tup (ea_cons (ev_var rfl) (ea_cons (ev_var rfl) ea_nil)) (by simp)) H1 eH Q fun v G' H2 n r' => q v G' H2 n (by
                  obtain ⟨t, ys, rfl, ht, rfl⟩ := r'
                  exact ⟨t, r, rfl, er, ht⟩)⟩
            obtain ⟨ts, ys, rfl, hts, hyl, hy⟩ := r
            obtain ⟨tas, rfl, htl, htr⟩ := refsOf1 (f := RowT) (by rw [hyl, lenS]) hy
            have TS0 : TupsAt RowT G ts sorts := ⟨tas, hts, htl, htr⟩
            have hA6 := n.kp _ _ st.at_
            have T1 : TSt G (upd H6 a (.ins C dx (putF "sorts" (.ref ts) fs4))) := TSt.upd n.st hA6
            have T1' := TS0.row T1
            have stay : ∀ {p : Addr} {o : HO}, p ≠ a → H' p = some o → (upd H6 a (.ins C dx (putF "sorts" (.ref ts) fs4))) p = some o := fun {p o} hp ho => by
              rw [upd_ne hp]
              exact n.kp _ _ ho
            have st6 : InitSt C a dx pc ps pa pr (putF "sorts" (.ref ts) fs4) sorts sg H (upd H6 a (.ins C dx (putF "sorts" (.ref ts) fs4))) :=
              ⟨(st.ex.ex n.kp).upd, upd_same, stay na1 st.pc, stay na2 st.ps, stay na3 st.pa, stay na4 st.pr, fun p hp => stay (fun z => by have := st.tup p hp; rw [z, st.at_] at this; cases this) (st.tup p hp)⟩
            have l7 : (putF "sorts" (.ref ts) fs4).length ≤ 5 := putF_len l6
            generalize (upd H6 a (.ins C dx (putF "sorts" (.ref ts) fs4))) = H7 at T1' st6
            refine q_fldN (f := "signs") S (en_tupL (Rs := fun ys G => ys.length = (gds.map V.ref).length ∧ ∀ i y, ys[i]? = some y → ∃ p r, y = V.ref p ∧ signs[i]? = some r ∧ SgnT G p r) (fun ys G G' h e => ⟨h.1, fun i y hy => ?_⟩)
              (en_lcL (xs := gds.map V.ref) (fun i y G => ∃ p r, y = V.ref p ∧ signs[i]? = some r ∧ SgnT G p r) (fun i y G G' h e => ?_) (ev_var rfl) (sq_of (cin st6.ex)) (by rw [lenG]; omega) (fun i x G H1 eG eH hx Q q => ?_))) (ev_var rfl) st6.at_ (by decide) (by omega) fun v G2 H8 n2 r => ?_
            · obtain ⟨p, r, z1, z2, q, z3, z4⟩ := h.2 i y hy
              exact ⟨p, r, z1, z2, q, e _ _ z3, e _ _ z4⟩
            · obtain ⟨p, r, z1, z2, q, z3, z4⟩ := h
              exact ⟨p, r, z1, z2, q, e _ _ z3, e _ _ z4⟩
            · rw [List.getElem?_map] at hx
              cases ep : gds[i]? with
              | none => rw [ep] at hx; cases hx
              | some p =>
                rw [ep] at hx
                obtain rfl : V.ref p = x := Option.some.inj hx
                have hi : i < signs.length := by rw [← hcn]; exact (List.getElem?_eq_some_iff.mp ep).1
                obtain ⟨g, er⟩ : ∃ g, signs[i]? = some g := ⟨_, List.getElem?_eq_getElem hi⟩
                obtain ⟨q0, hp1, hq1⟩ := hsgn i p g ep er
                have hp' := eG _ _ (st6.ex p _ (na hp1 (fun _ _ _ z => nomatch z)) hp1)
                have hq' := eG _ _ (st6.ex q0 _ (na hq1 (fun _ _ _ z => nomatch z)) hq1)
                exact ⟨p, [.str g.1, .ref q0, .str g.2.2], rfl, st_of (eH _ _ hp'), rfl, _, _, rfl, _, _, rfl, _, _, rfl, rfl, rfl, en_tup (Rs := fun us G => ∃ t, us = [.str g.1, .ref t, .str g.2.2] ∧ G t = some (.tup (g.2.1.map V.str))) (fun us G G' h e => by
                    obtain ⟨t, z1, z2⟩ := h
                    exact ⟨t, z1, e _ _ z2⟩) ((ena_consV (ev_var rfl) (ena_cons (Rr := fun _ vs _ => vs = [.str g.2.2]) (Rw := fun us G => ∃ t, us = [.ref t, .str g.2.2] ∧ G t = some (.tup (g.2.1.map V.str))) (en_eu (eu_tupL (ev_var rfl) (sq_of hq'))) (fun v G e r => ena_ev (ea_cons (ev_var rfl) ea_nil)) fun v vs G G' r e r' => by
                    obtain ⟨t, ys, rfl, ht, rfl⟩ := r
                    exact ⟨t, by rw [r'], e _ _ ht⟩)).imp fun us G _ h => by
                    obtain ⟨r, rfl, t, rfl, ht⟩ := h
                    exact ⟨t, rfl, ht⟩) (fun us G h => by
                    obtain ⟨t, rfl, _⟩ := h
                    simp) H1 eH Q fun v G' H2 n r' => q v G' H2 n (by
                  obtain ⟨p2, ys, rfl, hp2, t, rfl, ht⟩ := r'
                  exact ⟨p2, g, rfl, er, t, hp2, ht⟩)⟩
            obtain ⟨tg, ys, rfl, htg, hyl, hy⟩ := r
            obtain ⟨tgs, rfl, htl2, htr2⟩ := refsOf1 (f := SgnT) (by rw [hyl, lenG]) hy
            have TG0 : TupsAt SgnT G2 tg signs := ⟨tgs, htg, htl2, htr2⟩
            have hA8 := n2.kp _ _ st6.at_
            have T2 := TG0.sgn (TSt.upd (fs' := putF "signs" (.ref tg) (putF "sorts" (.ref ts) fs4)) n2.st hA8)
            have T3 := T1'.row (TSt.upd (fs' := putF "signs" (.ref tg) (putF "sorts" (.ref ts) fs4)) n2.kp hA8)
            have stay2 : ∀ {p : Addr} {o : HO}, p ≠ a → H7 p = some o → (upd H8 a (.ins C dx (putF "signs" (.ref tg) (putF "sorts" (.ref ts) fs4)))) p = some o := fun {p o} hp ho => by
              rw [upd_ne hp]
              exact n2.kp _ _ ho
            have st8 : InitSt C a dx pc ps pa pr (putF "signs" (.ref tg) (putF "sorts" (.ref ts) fs4)) sorts sg H (upd H8 a (.ins C dx (putF "signs" (.ref tg) (putF "sorts" (.ref ts) fs4)))) :=
              ⟨(st6.ex.ex n2.kp).upd, upd_same, stay2 na1 st6.pc, stay2 na2 st6.ps, stay2 na3 st6.pa, stay2 na4 st6.pr, fun p hp => stay2 (fun z => by have := st6.tup p hp; rw [z, st6.at_] at this; cases this) (st6.tup p hp)⟩
            have l8 : (putF "signs" (.ref tg) (putF "sorts" (.ref ts) fs4)).length ≤ 6 := putF_len l7
            generalize (upd H8 a (.ins C dx (putF "signs" (.ref tg) (putF "sorts" (.ref ts) fs4)))) = H9 at T2 T3 st8
            obtain ⟨tas3, hts3, htl3, htr3⟩ := id T3
            obtain ⟨r0, er0⟩ : ∃ r, sorts[0]? = some r := ⟨_, List.getElem?_eq_getElem (by omega)⟩
            obtain ⟨p0, ep0⟩ : ∃ p, tas3[0]? = some p := ⟨_, List.getElem?_eq_getElem (by omega)⟩
            have hp0 := htr3 0 p0 r0 ep0 er0
            have lk1 : (putF "signs" (.ref tg) (putF "sorts" (.ref ts) fs4)).lookup ("sorts" : Str) = some (.ref ts) := by
              rw [lookup_putF, if_neg (by decide), lookup_putF, if_pos rfl]
            refine s_fldV (f := "said") (v := .str r0.1) S (ev_op (ev_op (ev_fld (f := "sorts") (v := .ref ts) (m := [("sorts", .ref ts)]) S (ev_var rfl) ⟨dx, _, st8.at_, fun m hm => by rw [List.mem_singleton.mp hm]; exact lk1⟩ List.mem_cons_self (by decide)) ev_c (rv_ixSq (.inr (st_of hts3)) (atI_nat (j := 0) (by rw [List.getElem?_map, ep0]; rfl)))) ev_c (rv_ixSq (.inr (st_of hp0)) (atI_nat (j := 0) rfl))) (ev_var rfl) st8.at_ (by decide) (by omega) fun Ha ea => ?_
            have hAa := ea _ _ st8.at_
            have stay3 : ∀ {p : Addr} {o : HO}, p ≠ a → H9 p = some o → (upd Ha a (.ins C dx (putF "said" (.str r0.1) (putF "signs" (.ref tg) (putF "sorts" (.ref ts) fs4))))) p = some o := fun {p o} hp ho => by
              rw [upd_ne hp]
              exact ea _ _ ho
            refine kn hnone _ (st8.ex.ex ea).upd ⟨pc, ps, pa, pr, ts, tg, sg, r0.1, ⟨dx, _, upd_same, fun m hm => ?_⟩, ⟨dx, _, upd_same, fun m hm => ?_⟩, stay3 na1 st8.pc, stay3 na2 st8.ps, stay3 na3 st8.pa, stay3 na4 st8.pr, hsg', fun p hp => stay3 (fun z => by have := st8.tup p hp; rw [z, st8.at_] at this; cases this) (st8.tup p hp), T3.row (TSt.upd ea hAa), T2.sgn (TSt.upd ea hAa), by rw [List.getElem?_map, er0]; rfl⟩
            · simp only [List.mem_cons, List.not_mem_nil, or_false] at hm
              have sh : ∀ {x : Str} {v : V} {l : List (Str × V)}, l.lookup x = some v → l.lookup ((x, v) : Str × V).1 = some ((x, v) : Str × V).2 := fun h => h
              rcases hm with rfl | rfl | rfl | rfl | rfl | rfl | rfl <;> refine sh ?_
              · rw [lookup_putF, if_neg (by decide), lookup_putF, if_neg (by decide), lookup_putF, if_neg (by decide)]; exact l1
              · rw [lookup_putF, if_neg (by decide), lookup_putF, if_neg (by decide), lookup_putF, if_neg (by decide)]; exact l2
              · rw [lookup_putF, if_neg (by decide), lookup_putF, if_neg (by decide), lookup_putF, if_neg (by decide)]; exact l3
              · rw [lookup_putF, if_neg (by decide), lookup_putF, if_neg (by decide), lookup_putF, if_neg (by decide)]; exact l4
              · rw [lookup_putF, if_neg (by decide), lookup_putF, if_neg (by decide), lookup_putF, if_pos rfl]
              · rw [lookup_putF, if_neg (by decide), lookup_putF, if_pos rfl]
              · rw [lookup_putF, if_pos rfl]
            · have no : ∀ m ∈ (["_add_sort", "_add_sign", "capital", "arguments", "result", "is_bare", "sort_of_word", "fault", "check"] : List Str), m ≠ "said" ∧ m ≠ "signs" ∧ m ≠ "sorts" := by decide
              obtain ⟨q1, q2, q3⟩ := no m hm
              rw [lookup_putF, if_neg q1, lookup_putF, if_neg q2, lookup_putF, if_neg q3]
              exact l5 m hm
end
end K87
-- KRvT
/-! list(reversed(x)), x a tuple -/
namespace KRvT
open PySem PySem.Spec PyProof.Rows L2 RT
theorem nolen_rt : typeLookup (.type "reversed") "__len__" = pure none := by
  rw [typeLookup_type, builtinLookup_eq_fast]
  kernel_rfl
theorem slot_rt_hint : Slot "reversed" "__length_hint__" "reversed.__length_hint__" := by
  refine .of (owner := "reversed") (n := "__length_hint__") ?_ (by decide +kernel) (by decide +kernel) (by decide +kernel) ?_ ?_
  · rw [typeLookup_type, builtinLookup_eq_fast]
    kernel_rfl
  · first
      | exact .inl (by decide +kernel)
      | exact .inr (by decide +kernel)
  · rw [isSubtype_type]
    kernel_rfl
theorem entry_rt_hint : entryFor table "reversed.__length_hint__" = some Builtin.«reversed.__length_hint__» := entryFor_of_tree (by kernel_rfl)
theorem args_rt_hint (v : Value) : argsOk "reversed.__length_hint__" ⟨[v], []⟩ := by
  unfold argsOk
  rw [signature?_of (id := "reversed.__length_hint__") (n := "__length_hint__".toList.reverse) (o := "reversed".toList.reverse) (by kernel_rfl) owner_rt]
  kernel_rfl
section
variable {prog : Program} {w : World} {A : Around} {E : Value → Shared → Prop} {s : Shared} {it t : Addr} {items : Array Value}
theorem hint_rt {Q : Bool → Shared → Prop} (hit : IsRt s.heap it t ((items.size : Int) - 1)) (ht : IsTup s.heap t items) (hz : items.size ≤ sizeLine) (hQ : ∀ b tk, Q b { s with toks := tk }) :
    wpAny (model prog w) A (Builtin.List.listLengthHint (.ref it)) Q E s := by
  obtain ⟨o, ho, hc, hd⟩ := id hit
  have hT := hit.typeIs
  rw [sizeLine_eq] at hz
  unfold Builtin.List.listLengthHint
  refine wpAny_bind (wpAny_specialOf hT nolen_rt ?_)
  show wpAny _ A (specialOf (Value.ref it) (Str.ofString "__length_hint__") >>= _) _ _ s
  refine wpAny_bind (wpAny_specialOf hT slot_rt_hint.lookup ?_)
  generalize hid : ("reversed.__length_hint__" : String) = nm
  wp_delta
  rw [show splitId nm = some ("reversed", "__length_hint__") from by subst hid; decide +kernel]
  subst hid
  refine wpAny_bind (wpAny_isInstance (b := true) hT (by rw [isSubtype_type]; kernel_rfl) ?_)
  refine wpAny_ite_split (fun z => absurd z (by decide)) (fun _ => ?_)
  refine wpAny_ite_split (fun z => absurd z (by decide +kernel)) (fun _ => ?_)
  refine wpAny_bind (wpAny_rule ?_)
  refine wpAny_bind (wpAny_of_eq (slot_rt_hint.bind _) ?_)
  refine wpAny_bind (wpAny_attempt (wpAny_call_entry slot_rt_hint hT entry_rt_hint ?_ (args_rt_hint _)))
  unfold Builtin.«reversed.__length_hint__»
  refine wpAny_bind (wpAny_of_eq (a := Value.ref it) rfl ?_)
  try dsimp only
  refine wpAny_bind (wpAny_field ho hd (x := .ref t) rfl ?_)
  try dsimp only
  rw [if_neg (by simp)]
  refine wpAny_bind (PyProof.Rows.len_tuple ht (by omega) ?_)
  refine wpAny_bind (m := asInt? _) (wpAny_pure ?_)
  try dsimp only
  refine wpAny_bind (wpAny_field (s := { s with toks := s.toks + 1 + 1 }) ho hd (x := rawInt ((items.size : Int) - 1)) rfl ?_)
  show wpAny _ _ (if (items.size : Int) < (items.size : Int) - 1 + 1 then _ else _) _ _ _
  rw [if_neg (by omega)]
  unfold retInt
  refine wpAny_bind (wpAny_mkInt ?_)
  refine wpAny_pure ⟨_, rfl, ?_⟩
  refine wpAny_bind (m := asInt? _) (wpAny_pure ?_)
  have en : (items.size : Int) - 1 + 1 = (items.size : Int) := by omega
  rw [en]
  have f1 : Builtin.List.listFitsIndex (items.size : Int) = true := by
    simp [Builtin.List.listFitsIndex]
    omega
  have f2 : Builtin.List.listTooLong ((items.size : Int).toNat) = false := by
    unfold Builtin.List.listTooLong
    rw [Int.toNat_natCast]
    exact decide_eq_false (fun z => absurd (Nat.lt_of_lt_of_le (by rw [sizeLine_eq] at z; exact z) hz) (Nat.lt_irrefl _))
  have f1' : ¬ (!Builtin.List.listFitsIndex (items.size : Int)) = true := by
    rw [f1]
    decide
  have f2' : ¬ Builtin.List.listTooLong ((items.size : Int).toNat) = true := by
    rw [f2]
    decide
  have f3' : ¬ (items.size : Int) < 0 := by omega
  dsimp only
  rw [if_neg f1', if_neg f3', if_neg f2']
  exact wpAny_pure (hQ _ _)
theorem walk_rt (hh : A.handled = none) (it t : Addr) (hne : t ≠ it) (items : Array Value) (hz : items.size ≤ sizeLine) :
    Walks prog w A it [it, t] [it] items.size (fun i v => items[items.size - 1 - i]? = some v) (fun i h => i ≤ items.size ∧ IsRt h it t ((items.size : Int) - 1 - (i : Int)) ∧ IsTup h t items) where
  sub := fun b hb => by
    rw [List.mem_singleton.mp hb]
    exact List.mem_cons_self
  frame := fun _ _ _ x hk => by
    obtain ⟨x1, x2, o, x3, x4⟩ := x
    exact ⟨x1, x2.at fun o e => hk it (by simp) o e, o, hk t (by simp) o x3, x4⟩
  item := fun i s Q E hi x hQ => by
    obtain ⟨x1, hit, ht⟩ := x
    have e : (items.size : Int) - 1 - (i : Int) = ((items.size - 1 - i : Nat) : Int) := by omega
    rw [e] at hit
    have hx : items[items.size - 1 - i]? = some (items[items.size - 1 - i]'(by omega)) := Array.getElem?_eq_getElem (by omega)
    refine next_rt_item hit ht hx hz fun h' hit' hs' => ?_
    have e2 : ((items.size - 1 - i : Nat) : Int) - 1 = (items.size : Int) - 1 - ((i + 1 : Nat) : Int) := by omega
    rw [e2] at hit'
    obtain ⟨ot, ht1, ht2⟩ := ht
    exact hQ _ h' (s.toks + 1) hx ⟨hi, hit', ot, (hs'.2 t hne).trans ht1, ht2⟩ fun b o hb eo => hs'.extBut b o (fun z => hb (by simp [z])) eo
  done := fun s Q E x hQ => by
    obtain ⟨x1, hit, ht⟩ := x
    have e : (items.size : Int) - 1 - (items.size : Int) = -1 := by omega
    rw [e] at hit
    exact next_rt_end hh hit fun h' he' => hQ h' s.toks fun b o hb eo => he' b o (fun z => hb (by simp [z])) eo
  self := fun _ _ _ _ x hQ => iter_rt x.2.1 hQ
theorem ext_rt {R : Result → Shared → Prop} (hh : A.handled = none) (hit : IsRt s.heap it t ((items.size : Int) - 1)) (ht : IsTup s.heap t items) (hne : t ≠ it) (hz : items.size ≤ sizeLine) (S : Addr) (res : Value) (c₀ : Nat) (hSi : S ≠ it) (hSt : S ≠ t)
    (hS : s.heap.get? S = some { cls := .type "list", data := .seq #[] c₀ })
    (hR : ∀ h' tk acc' c', (∀ b o, b ≠ S → b ≠ it → s.heap.get? b = some o → h'.get? b = some o) → h'.get? S = some { cls := .type "list", dict := none, data := .seq acc' c', slots := #[] } →
      ItemsOf (fun i v => items[items.size - 1 - i]? = some v) acc' items.size → R (.ok (.ret res)) { s with heap := h', toks := tk }) :
    wpAny (model prog w) A.in1 (Builtin.List.listExtendWith (.ref S) (.ref it) res)
      (fun fin s' => match fin with | .done f => R (.ok f) s' | .again c' => c'.quiet = true ∧ codeAny (model prog w) A c' R s') (fun e s' => R (.error e) s') s := by
  have W := (walk_rt (prog := prog) (w := w) (A := A.in1) hh it t hne items hz).toS
  have hSf : S ∉ [it, t] := by simp [hSi, hSt]
  have key : ∀ (h : Heap) (c₁ tk : Nat), (∀ b o, b ≠ S → s.heap.get? b = some o → h.get? b = some o) → h.get? S = some { cls := .type "list", data := .seq #[] c₁ } →
      codeAny (model prog w) A (.builtin "list.extend.loop" ⟨[.ref S, .ref it, res], []⟩) R { s with heap := h, toks := tk } := fun h c₁ tk hk hS1 => by
    have e0 : (items.size : Int) - 1 - ((0 : Nat) : Int) = (items.size : Int) - 1 := by omega
    obtain ⟨ot, ht1, ht2⟩ := ht
    refine codeAny_extend_loopS W hz S hSf res items.size 0 _ #[] c₁ rfl (Nat.zero_le _) ⟨Nat.zero_le _, by rw [e0]; exact hit.at fun o e => hk it o (Ne.symm hSi) e, ot, hk t ot (Ne.symm hSt) ht1, ht2⟩ hS1 (ItemsOf.nil _) fun s' acc' c' hm hS' hacc => ?_
    rw [Moved.eq_with hm]
    refine hR s'.heap s'.toks acc' c' (fun b o n1 n2 e => hm.heap b o (fun z => ?_) (hk b o n1 e)) hS' hacc
    rcases List.mem_cons.mp z with z | z
    · exact n1 z
    · exact n2 (List.mem_singleton.mp z)
  unfold Builtin.List.listExtendWith
  refine wpAny_bind (wpAny_typeOf hit.typeIs ?_)
  have g1 : Builtin.List.listSameRef (.ref S) (.ref it) = false := by simp [Builtin.List.listSameRef, hSi]
  have g2 : (Value.type "reversed" == Value.type "list") = false := by decide
  have g3 : (Value.type "reversed" == Value.type "tuple") = false := by decide
  simp only [g1, g2, g3, Bool.or_false, Bool.false_eq_true, if_false]
  refine wpAny_bind (iter_rt hit ?_)
  refine wpAny_bind (wpAny_holding (hint_rt hit ht hz fun room tk => ?_))
  refine wpAny_ite_split (fun _ => ?_) (fun _ => wpAny_pure ⟨plainId_quiet F.plain_extend_loop _, key _ c₀ _ (fun b o _ e => e) hS⟩)
  refine wpAny_bind (wpAny_rule ?_)
  refine wpAny_bind ?_
  show wpAny _ _ (updateSeq S (·.push Value.none) >>= fun _ => updateSeq S (·.pop)) _ _ _
  refine wpAny_bind (wpAny_updateSeq hS rfl ?_)
  have hS2 := Heap.get?_update_self (Obj.mapSeq (·.push Value.none)) hS rfl
  refine wpAny_updateSeq (hz := by seq_fits) hS2 rfl ?_
  have hS3 := Heap.get?_update_self (Obj.mapSeq (·.pop)) hS2 rfl
  exact wpAny_pure ⟨plainId_quiet F.plain_extend_loop _, key _ _ _ (fun b o n1 e => (Heap.get?_update_other _ _ (Ne.symm n1)).trans ((Heap.get?_update_other _ _ (Ne.symm n1)).trans e)) hS3⟩
theorem call_list_rt {Q : Value → Shared → Prop} (hh : A.handled = none) (hit : IsRt s.heap it t ((items.size : Int) - 1)) (ht : IsTup s.heap t items) (hne : t ≠ it) (hz : items.size ≤ sizeLine)
    (hQ : ∀ h' tk acc' c', (∀ b o, b ≠ it → s.heap.get? b = some o → h'.get? b = some o) → h'.get? s.heap.objs.size = some { cls := .type "list", dict := none, data := .seq acc' c', slots := #[] } →
      ItemsOf (fun i v => items[items.size - 1 - i]? = some v) acc' items.size → Q (.ref s.heap.objs.size) { s with heap := h', toks := tk }) :
    wpAny (model prog w) A (call (.type "list") [.ref it]) Q E s := by
  refine callType_codes (Q₁ := fun ob s1 => ob = .ref s.heap.objs.size ∧ s1 = { s with heap := s.heap.push { cls := .type "list", data := .seq #[] } }) F.called_list (F.typeCall_list_1 _) F.entry_list_init (code_list_new _ ⟨rfl, rfl⟩) fun ob s1 h1 => ?_
  obtain ⟨rfl, rfl⟩ := h1
  obtain ⟨oi, hoi, oi2⟩ := id hit
  obtain ⟨ot, hot, ot2⟩ := id ht
  have nSi : s.heap.objs.size ≠ it := Nat.ne_of_gt (Heap.lt_size hoi)
  have nSt : s.heap.objs.size ≠ t := Nat.ne_of_gt (Heap.lt_size hot)
  have hS : (s.heap.push { cls := .type "list", data := .seq #[] }).get? s.heap.objs.size = some { cls := .type "list", data := .seq #[] } := Heap.get?_push_size _ rfl
  refine ⟨⟨_, hS, rfl⟩, F.args_list_init_2 _ _, ?_⟩
  show wpAny _ _ (do let old ← Builtin.List.listItems (.ref s.heap.objs.size); Builtin.List.listUpdate (.ref s.heap.objs.size) (fun _ => #[]); letGo old.toList.reverse; Builtin.List.listExtendWith (.ref s.heap.objs.size) (.ref it) .none) _ _ _
  refine wpAny_bind ?_
  unfold Builtin.List.listItems
  refine wpAny_bind (wpAny_seqItems hS rfl (wpAny_pure ?_))
  show wpAny _ _ (updateSeq s.heap.objs.size (fun _ => #[]) >>= fun _ => letGo (#[] : Array Value).toList.reverse >>= fun _ => Builtin.List.listExtendWith (.ref s.heap.objs.size) (.ref it) .none) _ _ _
  refine wpAny_bind (wpAny_updateSeq hS rfl ?_)
  have hS2 := Heap.get?_update_self (Obj.mapSeq (fun _ => (#[] : Array Value))) hS rfl
  have oth : ∀ b o, b ≠ s.heap.objs.size → s.heap.get? b = some o → ((s.heap.push { cls := .type "list", data := .seq #[] }).update s.heap.objs.size (Obj.mapSeq (fun _ => (#[] : Array Value)))).get? b = some o :=
    fun b o hb e => (Heap.get?_update_other _ _ (Ne.symm hb)).trans (Heap.get?_push_of_some _ e)
  refine wpAny_bind (wpAny_letGo ?_)
  refine ext_rt (A := A.in1) hh (hit.at fun o e => oth it o (Ne.symm nSi) e) ⟨ot, oth t ot (Ne.symm nSt) hot, ot2⟩ hne hz _ .none _ nSi nSt hS2 fun h' tk acc' c' hk hS' hacc => ?_
  exact ⟨rfl, hQ h' tk acc' c' (fun b o n2 e => hk b o (Nat.ne_of_lt (Heap.lt_size e)) n2 (oth b o (Nat.ne_of_lt (Heap.lt_size e)) e)) hS' hacc⟩
end
/-- list(reversed(e)), e a tuple: a new list -/
def tLstRev (K : PySem.W.Frag) (te : TE) : TE := fun σ H Q => te σ H fun v H1 => ∃ (a : Addr) (xs : List V), v = .ref a ∧ SqT K H1 a xs ∧ ∀ q, H1 q = none → Q (.ref q) (upd H1 q (.lst xs.reverse))
theorem pe_lstRev {X : Cx} {e : Expr} {te : TE} {p p2 pos pos2 : Pos} (hc : X.calm = true) (hg : Gl X "list") (hm : X.mg "list" = none) (hg2 : Gl X "reversed") (hm2 : X.mg "reversed" = none) (he : PE X e te)
    (hs : starEach [e] X.env = (false, eval e X.env) :: starEach [] X.env := by rfl)
    (hs2 : starEach [.Call (.Name "reversed" p2) [e] [] pos2] X.env = (false, eval (.Call (.Name "reversed" p2) [e] [] pos2) X.env) :: starEach [] X.env := by rfl) :
    PE X (.Call (.Name "list" p) [.Call (.Name "reversed" p2) [e] [] pos2] [] pos) (tLstRev X.K te) := by
  refine ⟨fun pins s σ H Q I h => ?_⟩
  refine Call_ (ld_blt I hg hm (by decide +kernel : bootBuiltins "list" = some (.type "list")) (PyProof.Rows.callWith_type1 (args_cons (Call_ (ld_blt I hg2 hm2 PyProof.Rows.boot_reversed (PyProof.Rows.callWith_type1 (args_cons (thn (he.run pins s σ H _ I h) fun u s1 ⟨v, H1, I1, r1, q1⟩ => args_nil ?_) hs) hs rfl))) hs2) hs2 rfl))
  obtain ⟨a, xs, rfl, hq, q⟩ := q1
  obtain rfl : u = Value.ref a := r1
  obtain ⟨its, rv, p', hz⟩ := I1.tuple hq
  have hn : its.toArray.size ≤ sizeLine := by
    rw [List.size_toArray, ← rv.length]
    exact hz
  have l63 := line63
  refine call_reversed_tup p' (fun A E Q k => PyProof.Rows.len_tuple p' (by omega) k) (args_nil ?_)
  have k0 : ∀ b o, s1.heap.get? b = some o → (s1.heap.push (rtObj a ((its.toArray.size : Int) - 1))).get? b = some o := fun b o e => Heap.get?_push_of_some _ e
  obtain ⟨ot, hot, ot2⟩ := id p'
  have hne : a ≠ s1.heap.objs.size := Nat.ne_of_lt (Heap.lt_size hot)
  refine call_list_rt (s := { s1 with heap := s1.heap.push (rtObj a ((its.toArray.size : Int) - 1)), toks := s1.toks + 1 + 1 }) (I1.ok.hd hc) ⟨_, Heap.get?_push_size _ rfl, rfl, rfl⟩ ⟨ot, k0 a ot hot, ot2⟩ hne hn fun h' tk acc c' hk hS hi => ?_
  have es : (s1.heap.push (rtObj a ((its.toArray.size : Int) - 1))).objs.size = s1.heap.objs.size + 1 := Array.size_push _
  refine ⟨.ref (s1.heap.push (rtObj a ((its.toArray.size : Int) - 1))).objs.size, upd H1 (s1.heap.push (rtObj a ((its.toArray.size : Int) - 1))).objs.size (.lst xs.reverse), I1.laid (t' := tk) (fun c o e => hk c o (Nat.ne_of_lt (Heap.lt_size e)) (k0 c o e)) (by rw [es]; exact Nat.le_succ _)
    (show ObjOk X.prog X.w _ _ _ (.lst xs.reverse) from ⟨by rw [List.length_reverse]; exact hz, acc.toList, c', vals_rev rv hi, by rw [Array.toArray_toList]; exact hS⟩), rfl, q _ (I1.hok.fresh (by rw [es]; exact Nat.le_succ _))⟩
open Evl in
theorem el_lstRev {K : PySem.W.Frag} {te : TE} {σ : L2.St} {H : Hp} {a : Addr} {xs : List V} (h : Ev te σ H (.ref a)) (hx : SqT K H a xs) : EvL (tLstRev K te) σ H xs.reverse := fun H1 e Q q =>
  h H1 e _ fun H2 e2 => ⟨a, xs, rfl, ex_t (e.trans e2) hx, fun p hp => q p _ (fresh_back e2 hp) (e2.trans (Ex.new hp)) upd_same⟩
end KRvT
-- E11
namespace K87
open PySem PySem.Spec PyProof.Rows L2 Evl KEv TL KDd KSq KSame KTxt KHot KSup KNew
/-! what a signature tells: capital, arguments, result, is_bare -/
def spLook (ec : EK → Addr) (C : Addr) (fld : Str) : Sp := fun vs H Q E => ∃ (a : Addr) (x : Str) (d : Addr) (kvs : List (Key × V)), vs = [.ref a, .str x] ∧ AtI C H a [(fld, .ref d)] ∧ H d = some (.dK kvs) ∧ (valV kvs (Sum.inr x) = none → RaisesE ec .unk x H E) ∧ ∀ v, valV kvs (Sum.inr x) = some v → RetV v H Q
def spBare (ec : EK → Addr) (C : Addr) : Sp := fun vs H Q E => ∃ (a : Addr) (x : Str) (pc pr : Addr) (sorts : List Row) (sg : List (Sgn × Addr)), vs = [.ref a, .str x] ∧ AtI C H a [("_capitals", .ref pc), ("_results", .ref pr)] ∧ H pc = some (.dK (capK sorts)) ∧ H pr = some (.dK (resK sg)) ∧ (sg.map fun p => p.1.1).Nodup ∧ sg.length ≤ 100 ∧ (decide (x ∈ sorts.map (·.1)) = false → RaisesE ec .unk x H E) ∧ (decide (x ∈ sorts.map (·.1)) = true → RetV (.bl (!(sg.any fun p => decide (p.1.2.2 = x)))) H Q)
theorem unlock_ex {H H' : Hp} {d : Addr} {o : Obj} {u : HO} (e : Ex (upd H d (.frz o u)) H') (h : H d = some u) : Ex H (upd H' d u) := fun b v hb => by
  by_cases z : b = d
  · rw [z] at hb ⊢
    rw [upd_same, ← h, hb]
  · rw [upd_ne z]
    exact e _ _ (by rw [upd_ne z]; exact hb)
theorem dkv_no {α : Type} {k : α → Str} {v : α → V} {l : List α} {x : Str} (h : x ∉ l.map k) : valV (dkv k v l) (Sum.inr x) = none := by
  have := dkv_some k v x l
  rw [decide_eq_false h] at this
  cases e : valV (dkv k v l) (Sum.inr x) with
  | none => rfl
  | some u => rw [e] at this; cases this
theorem dkv_at {α : Type} {k : α → Str} {v : α → V} : ∀ {l : List α} {r : α}, (l.map k).Nodup → r ∈ l → valV (dkv k v l) (Sum.inr (k r)) = some (v r)
  | s :: l, r, hn, hr => by
    rw [List.map_cons, List.nodup_cons] at hn
    rcases List.mem_cons.mp hr with rfl | hr
    · exact valV_pos (p := ((Sum.inr (k r) : Key), v r)) rfl
    · have ne : k s ≠ k r := fun z => hn.1 (by rw [z]; exact List.mem_map.mpr ⟨r, hr, rfl⟩)
      exact (valV_neg (p := ((Sum.inr (k s) : Key), v s)) (fun z => ne (Sum.inr.inj z))).trans (dkv_at hn.2 hr)
/-- for k in a locked dict -/
theorem s_forKeys {td : TE} {tu : TS} {D : Ends} {σ : L2.St} {H : Hp} {d : Addr} {od : Obj} {kvs : List (Key × V)} {j : Nat} (h : Ev td σ H (.ref d)) (hd : H d = some (.frz od (.dK kvs))) (Pv : Nat → L2.St → Hp → Prop) (h0 : ∀ H1, Ex H H1 → Pv 0 σ H1) (hp : ∀ i σ' H', Pv i σ' H' → Ex H H')
    (hs : ∀ i k v σ' H', kvs[i]? = some (k, v) → Pv i σ' H' → tu { D with nx := Pv (i + 1), ct := Pv (i + 1), bk := D.nx } (σ'.set j (some (kV k))) H') (he : ∀ σ' H', Pv kvs.length σ' H' → D.nx σ' H') : tFor (iKeys td) (gName j) tu D σ H :=
  h H (Ex.refl H) _ fun H1 e1 => ⟨d, od, rfl, .inl ⟨kvs, e1 _ _ hd, for_it walk_keys Pv (h0 H1 e1) (fun i σ' H' _ p => hp i σ' H' p _ _ hd) (fun i x σ' H2 H3 _ p y => by
    obtain ⟨rfl, k, v, hk, rfl⟩ := y
    exact hs i k v σ' _ hk p) he⟩⟩
section
variable {P : Program} {w : World} {K : PySem.W.Frag} {mg : Str → Option Value} {base : Heap} {ec fi : EK → Addr} {C : Addr}
theorem scCapital : FnScope ["self", "sort"] ["self", "sort"] (defScope (sSig 3)) := ⟨rfl, rfl, rfl, by decide +kernel, rfl, by decide +kernel, by decide +kernel⟩
theorem ok_capital {f : Addr} {fd : FuncData} (F : Fun K "capital" "Signature.capital" (sSig 3) f fd) (S : SigC K C) (E0 : Errs P K mg ec fi) : FnOk P w K mg base (L2N.CX P w) 1 f fd ["self", "sort"] (spLook ec C "_capitals") := by
  refine okXN F scCapital (fun vs H Q E h => ?_) (fun cdv A outer s H vs Q E hr h => ?_)
  · obtain ⟨a, x, d, kvs, rfl, _⟩ := h
    rfl
  · obtain ⟨a, x, d, kvs, rfl, hA, hd, kf, kn⟩ := h
    have hu := hu_of hr
    have tk := L2N.takes_of (X := cxOf (L2N.CX P w) P w K mg base ["self", "sort"] "Signature.capital" (defScope (sSig 3)) f cdv A outer s H E) rfl rfl rfl rfl
    refine ⟨_, pss_cons (ps_if (pt_cmp (pc_dnotin hu (pv 1) (pe_fld (pv 0) (by rfl)))) (pss_one (L2N.ps_raise rfl tk (pmk_sup (x := "UnknownName") (E0.t .unk) (by decide) hr (pa_cons (pv 1) pa_nil) (by rfl)))) pss_nil)
      (pss_one (ps_ret (pe_dget hu (pe_fld (pv 0) (by rfl)) (pv 1) (fun _ _ => rfl)))), ?_⟩
    cases b : valV kvs (Sum.inr x) with
    | none => exact q_when (b := true) (et_is (et_test (ev_dnotin (k := Sum.inr x) (ev_var rfl) (ev_fld S (ev_var rfl) hA (f := "_capitals") (v := .ref d) List.mem_cons_self (by decide)) (.inl hd))) (by rw [b]; rfl)) (fun _ H1 e1 => s_raise (ev_var rfl) rfl ((kf b).mono e1)) (fun z => by cases z)
    | some v =>
      refine q_when (b := false) (et_is (et_test (ev_dnotin (k := Sum.inr x) (ev_var rfl) (ev_fld S (ev_var rfl) hA (f := "_capitals") (v := .ref d) List.mem_cons_self (by decide)) (.inl hd))) (by rw [b]; rfl)) (fun z => by cases z) (fun _ H1 e1 => ?_)
      exact s_ret (ev_dget (k := Sum.inr x) (ev_fld S (ev_var rfl) (hA.ex e1) (f := "_capitals") (v := .ref d) List.mem_cons_self (by decide)) (ev_var rfl) (e1 _ _ hd) b) fun H2 e2 => kn v b H2 (e1.trans e2)
theorem scArguments : FnScope ["self", "sign"] ["self", "sign"] (defScope (sSig 4)) := ⟨rfl, rfl, rfl, by decide +kernel, rfl, by decide +kernel, by decide +kernel⟩
theorem ok_arguments {f : Addr} {fd : FuncData} (F : Fun K "arguments" "Signature.arguments" (sSig 4) f fd) (S : SigC K C) (E0 : Errs P K mg ec fi) : FnOk P w K mg base (L2N.CX P w) 1 f fd ["self", "sign"] (spLook ec C "_arguments") := by
  refine okXN F scArguments (fun vs H Q E h => ?_) (fun cdv A outer s H vs Q E hr h => ?_)
  · obtain ⟨a, x, d, kvs, rfl, _⟩ := h
    rfl
  · obtain ⟨a, x, d, kvs, rfl, hA, hd, kf, kn⟩ := h
    have hu := hu_of hr
    have tk := L2N.takes_of (X := cxOf (L2N.CX P w) P w K mg base ["self", "sign"] "Signature.arguments" (defScope (sSig 4)) f cdv A outer s H E) rfl rfl rfl rfl
    refine ⟨_, pss_cons (ps_if (pt_cmp (pc_dnotin hu (pv 1) (pe_fld (pv 0) (by rfl)))) (pss_one (L2N.ps_raise rfl tk (pmk_sup (x := "UnknownName") (E0.t .unk) (by decide) hr (pa_cons (pv 1) pa_nil) (by rfl)))) pss_nil)
      (pss_one (ps_ret (pe_dget hu (pe_fld (pv 0) (by rfl)) (pv 1) (fun _ _ => rfl)))), ?_⟩
    cases b : valV kvs (Sum.inr x) with
    | none => exact q_when (b := true) (et_is (et_test (ev_dnotin (k := Sum.inr x) (ev_var rfl) (ev_fld S (ev_var rfl) hA (f := "_arguments") (v := .ref d) List.mem_cons_self (by decide)) (.inl hd))) (by rw [b]; rfl)) (fun _ H1 e1 => s_raise (ev_var rfl) rfl ((kf b).mono e1)) (fun z => by cases z)
    | some v =>
      refine q_when (b := false) (et_is (et_test (ev_dnotin (k := Sum.inr x) (ev_var rfl) (ev_fld S (ev_var rfl) hA (f := "_arguments") (v := .ref d) List.mem_cons_self (by decide)) (.inl hd))) (by rw [b]; rfl)) (fun z => by cases z) (fun _ H1 e1 => ?_)
      exact s_ret (ev_dget (k := Sum.inr x) (ev_fld S (ev_var rfl) (hA.ex e1) (f := "_arguments") (v := .ref d) List.mem_cons_self (by decide)) (ev_var rfl) (e1 _ _ hd) b) fun H2 e2 => kn v b H2 (e1.trans e2)
theorem scResult : FnScope ["self", "sign"] ["self", "sign"] (defScope (sSig 5)) := ⟨rfl, rfl, rfl, by decide +kernel, rfl, by decide +kernel, by decide +kernel⟩
theorem ok_result {f : Addr} {fd : FuncData} (F : Fun K "result" "Signature.result" (sSig 5) f fd) (S : SigC K C) (E0 : Errs P K mg ec fi) : FnOk P w K mg base (L2N.CX P w) 1 f fd ["self", "sign"] (spLook ec C "_results") := by
  refine okXN F scResult (fun vs H Q E h => ?_) (fun cdv A outer s H vs Q E hr h => ?_)
  · obtain ⟨a, x, d, kvs, rfl, _⟩ := h
    rfl
  · obtain ⟨a, x, d, kvs, rfl, hA, hd, kf, kn⟩ := h
    have hu := hu_of hr
    have tk := L2N.takes_of (X := cxOf (L2N.CX P w) P w K mg base ["self", "sign"] "Signature.result" (defScope (sSig 5)) f cdv A outer s H E) rfl rfl rfl rfl
    refine ⟨_, pss_cons (ps_if (pt_cmp (pc_dnotin hu (pv 1) (pe_fld (pv 0) (by rfl)))) (pss_one (L2N.ps_raise rfl tk (pmk_sup (x := "UnknownName") (E0.t .unk) (by decide) hr (pa_cons (pv 1) pa_nil) (by rfl)))) pss_nil)
      (pss_one (ps_ret (pe_dget hu (pe_fld (pv 0) (by rfl)) (pv 1) (fun _ _ => rfl)))), ?_⟩
    cases b : valV kvs (Sum.inr x) with
    | none => exact q_when (b := true) (et_is (et_test (ev_dnotin (k := Sum.inr x) (ev_var rfl) (ev_fld S (ev_var rfl) hA (f := "_results") (v := .ref d) List.mem_cons_self (by decide)) (.inl hd))) (by rw [b]; rfl)) (fun _ H1 e1 => s_raise (ev_var rfl) rfl ((kf b).mono e1)) (fun z => by cases z)
    | some v =>
      refine q_when (b := false) (et_is (et_test (ev_dnotin (k := Sum.inr x) (ev_var rfl) (ev_fld S (ev_var rfl) hA (f := "_results") (v := .ref d) List.mem_cons_self (by decide)) (.inl hd))) (by rw [b]; rfl)) (fun z => by cases z) (fun _ H1 e1 => ?_)
      exact s_ret (ev_dget (k := Sum.inr x) (ev_fld S (ev_var rfl) (hA.ex e1) (f := "_results") (v := .ref d) List.mem_cons_self (by decide)) (ev_var rfl) (e1 _ _ hd) b) fun H2 e2 => kn v b H2 (e1.trans e2)
end
end K87
-- E12
namespace K87
open PySem PySem.Spec PyProof.Rows L2 Evl KEv TL KDd KSq KSame KTxt KHot KSup KNew
/-! sort_of_word -/
def oV : Option Str → V
  | some x => .str x
  | none => .non
/-- the sort of a sign or of a letter -/
def wordSort (sorts : List Row) (signs : List Sgn) (x : Str) (n : Int) : Option Str := match signs.find? fun g => decide (g.1 = x) with
  | some g => some g.2.2
  | none => if letterB (tl x) n = true then (sorts.find? fun r => decide (r.2 = ⟨#[(tl x).headD 0]⟩)).map (·.1) else none
theorem dkv_val {α : Type} {k : α → Str} {v : α → V} {x : Str} : ∀ {l : List α}, valV (dkv k v l) (Sum.inr x) = (l.find? fun r => decide (k r = x)).map v
  | [] => rfl
  | r :: l => by
    by_cases e : k r = x
    · rw [List.find?_cons, decide_eq_true e]
      exact valV_pos (p := ((Sum.inr (k r) : Key), v r)) (by rw [e])
    · rw [List.find?_cons, decide_eq_false e]
      exact (valV_neg (p := ((Sum.inr (k r) : Key), v r)) (fun z => e (Sum.inr.inj z))).trans dkv_val
theorem find_sg {sg : List (Sgn × Addr)} {x : Str} : (sg.map (·.1)).find? (fun g => decide (g.1 = x)) = (sg.find? fun p => decide (p.1.1 = x)).map (·.1) := by
  induction sg with
  | nil => rfl
  | cons p l ih =>
    rw [List.map_cons, List.find?_cons, List.find?_cons]
    cases decide (p.1.1 = x) with
    | true => rfl
    | false => exact ih
theorem ev_get1 {σ : L2.St} {H : Hp} {td ty : TE} {a : Addr} {kvs : List (Key × V)} {k : Key} (hd : Ev td σ H (.ref a)) (hk : Ev ty σ H (kV k)) (h : H a = some (.dK kvs)) : Ev (tDGet1 td ty) σ H ((valV kvs k).getD .non) := fun H1 e Q q =>
  hd H1 e _ fun H2 e2 => ⟨a, rfl, .inl ⟨kvs, .inl (e2 _ _ (e _ _ h))⟩, hk H2 (e.trans e2) _ fun H3 e3 => ⟨_, DGet.k (e3 _ _ (e2 _ _ (e _ _ h))), q H3 (e2.trans e3)⟩⟩
def spSortW (C : Addr) : Sp := fun vs H Q _ => ∃ (a : Addr) (x : Str) (n : Int) (ps pr : Addr) (sorts : List Row) (sg : List (Sgn × Addr)), vs = [.ref a, .str x, .int n] ∧ AtI C H a [("_sorts", .ref ps), ("_results", .ref pr)] ∧ H ps = some (.dK (sorK sorts)) ∧ H pr = some (.dK (resK sg)) ∧ x.length ≤ 100000 ∧ RetV (oV (wordSort sorts (sg.map (·.1)) x n)) H Q
abbrev SowD (K : PySem.W.Frag) (f : Addr) (fd : FuncData) : Prop := FunD K "sort_of_word" "Signature.sort_of_word" (defArgs (sSig 7)) (defBody (sSig 7)) (defScope (sSig 7)) [.int 9] [] f fd
abbrev LetD (K : PySem.W.Frag) (f : Addr) (fd : FuncData) : Prop := FunD K "is_letter" "is_letter" (defArgs (topS 17)) (defBody (topS 17)) (defScope (topS 17)) [.int 9] [] f fd
theorem scSow : FnScope ["self", "word", "digits"] ["self", "word", "digits"] (defScope (sSig 7)) := ⟨rfl, rfl, rfl, by decide +kernel, rfl, by decide +kernel, by decide +kernel⟩
theorem letter_head {l : List Nat} {n : Int} (h : letterB l n = true) : ∃ c r, l = c :: r := by
  cases l with
  | nil => simp [letterB] at h
  | cons c r => exact ⟨c, r, rfl⟩
section
variable {P : Program} {w : World} {K : PySem.W.Frag} {mg : Str → Option Value} {base : Heap} {ec fi : EK → Addr} {C : Addr}
theorem let_b2 {f : Addr} {fd : FuncData} (F : LetD K f fd) : Binds K fd ["text", "digits"] [] := by
  obtain ⟨ds, h1, h2⟩ := F.binds1 (ps := ["text", "digits"]) 2 1 (by simp) rfl (fun T kV doc pm an cdv ct us its l1 l2 => match us, its, l1, l2 with | [_, _], [_], _, _ => ⟨_, rfl, rfl⟩)
  cases h1
  exact h2
structure LetAt (P : Program) (w : World) (K : PySem.W.Frag) (mg : Str → Option Value) (base : Heap) (f : Addr) (fd : FuncData) : Prop where
  F : FnOk P w K mg base CX0 1 f fd ["text", "digits"] spIsLetter
  g : mg "is_letter" = some (.ref f)
  kp : PySem.W.keepIn K (.ref f) = true
  D : LetD K f fd
theorem ok_sow {f fl : Addr} {fd fdl : FuncData} (F : SowD K f fd) (S : SigC K C) (L : LetAt P w K mg base fl fdl) : FnOk P w K mg base CX0 2 f fd ["self", "word", "digits"] (spSortW C) := by
  refine F.ok scSow (fun vs H Q E h => ?_) (fun cdv A outer s H vs Q E hr h => ?_)
  · obtain ⟨a, x, n, ps, pr, sorts, sg, rfl, _⟩ := h
    rfl
  · obtain ⟨a, x, n, ps, pr, sorts, sg, rfl, hA, hps, hpr, hx, k⟩ := h
    have hu := hu_of hr
    refine ⟨_, PSs.nox (pss_cons (ps_if (pt_cmp (pc_din hu (pv 1) (pe_fld (pv 0) (by rfl)))) (pss_one (ps_ret (pe_dget hu (pe_fld (pv 0) (by rfl)) (pv 1) (fun _ _ => rfl)))) pss_nil)
      (pss_cons (ps_if (pt_val (pe_call L.F hr (by rfl) L.g L.kp (let_b2 L.D) .nil pass0 (pa_cons (pv 1) (pa_cons (pv 2) pa_nil)))) (pss_one (ps_ret (pe_dget1 hu (pe_fld (pv 0) (by rfl)) (pe_ix ix_str (pv 1) pe_int (fun _ _ => rfl)) ⟨rfl, rfl, rfl, rfl⟩))) pss_nil) (pss_one (ps_ret pe_non)))), ?_⟩
    have fr : ∀ {G : Hp} {σ : L2.St}, Ex H G → σ[0]? = some (some (.ref a)) → Ev (tFld K (tVar 0) "_results") σ G (.ref pr) := fun {G σ} e h0 => ev_fld S (ev_var h0) (hA.ex e) (f := "_results") (v := .ref pr) (List.mem_cons_of_mem _ List.mem_cons_self) (by decide)
    have hv : valV (resK sg) (Sum.inr x) = (sg.find? fun p => decide (p.1.1 = x)).map fun p => V.str p.1.2.2 := dkv_val
    cases b : sg.find? fun p => decide (p.1.1 = x) with
    | some p =>
      rw [b] at hv
      have hw : wordSort sorts (sg.map (·.1)) x n = some p.1.2.2 := by
        unfold wordSort
        rw [find_sg, b]
        rfl
      refine q_when (b := true) (et_is (et_test (ev_din (k := Sum.inr x) (ev_var rfl) (fr (Ex.refl H) rfl) hpr)) (by rw [hv]; rfl)) (fun _ H1 e1 => ?_) (fun z => by cases z)
      exact s_ret (ev_dget (k := Sum.inr x) (fr e1 rfl) (ev_var rfl) (e1 _ _ hpr) hv) fun H2 e2 => by
        have := k H2 (e1.trans e2)
        rw [hw] at this
        exact this
    | none =>
      rw [b] at hv
      refine q_when (b := false) (et_is (et_test (ev_din (k := Sum.inr x) (ev_var rfl) (fr (Ex.refl H) rfl) hpr)) (by rw [hv]; rfl)) (fun z => by cases z) (fun _ H1 e1 => ?_)
      have hcall : ∀ {G : Hp} {σ : L2.St} {E : XK}, σ[1]? = some (some (.str x)) → σ[2]? = some (some (.int n)) → Ev (tCall spIsLetter [] E (tCons (tVar 1) (tCons (tVar 2) tNil))) σ G (.bl (letterB (tl x) n)) := fun h1 h2 => ev_call (ea_cons (ev_var h1) (ea_cons (ev_var h2) ea_nil)) fun H1 _ Q q E => ⟨x, n, rfl, hx, fun H2 e2 => q H2 e2⟩
      cases b2 : letterB (tl x) n with
      | true =>
        obtain ⟨c, r, ec0⟩ := letter_head b2
        have hw : wordSort sorts (sg.map (·.1)) x n = (sorts.find? fun r => decide (r.2 = ⟨#[c]⟩)).map (·.1) := by
          unfold wordSort
          rw [find_sg, b]
          show (if letterB (tl x) n = true then _ else _) = _
          rw [if_pos b2, ec0]
          rfl
        refine q_when (b := true) (et_is (et_B (hcall rfl rfl)) b2) (fun _ H2 e2 => ?_) (fun z => by cases z)
        have e2 := e1.trans e2
        refine s_ret (ev_get1 (k := Sum.inr ⟨#[c]⟩) (ev_fld S (ev_var rfl) (hA.ex e2) (f := "_sorts") (v := .ref ps) List.mem_cons_self (by decide)) (ev_op (ev_var rfl) ev_c (rv_ixS hx (by rw [show x.cps.toList = c :: r from ec0]; exact atI_nat (j := 0) rfl))) (e2 _ _ hps)) fun H3 e3 => ?_
        have := k H3 (e2.trans e3)
        rw [hw] at this
        have hs : valV (sorK sorts) (Sum.inr ⟨#[c]⟩) = (sorts.find? fun r => decide (r.2 = ⟨#[c]⟩)).map fun r => V.str r.1 := dkv_val
        rw [hs]
        cases q : sorts.find? fun r => decide (r.2 = ⟨#[c]⟩) with
        | some r => rw [q] at this; exact this
        | none => rw [q] at this; exact this
      | false =>
        have hw : wordSort sorts (sg.map (·.1)) x n = none := by
          unfold wordSort
          rw [find_sg, b]
          show (if letterB (tl x) n = true then _ else _) = _
          rw [if_neg (by rw [b2]; decide)]
        refine q_when (b := false) (et_is (et_B (hcall rfl rfl)) b2) (fun z => by cases z) (fun _ H2 e2 => ?_)
        exact s_ret ev_c fun H3 e3 => by
          have := k H3 ((e1.trans e2).trans e3)
          rw [hw] at this
          exact this
end
end K87
-- KFor
/-! for i, x in enumerate(list); pop, extend; what split gives -/
namespace KNew
open PySem PySem.Spec PyProof.Rows L2 Evl KEv KSq KD TL KRvT
theorem spl_len (S : List Nat) : ∀ (l acc : List Nat) (k : Nat) (w : List Nat), w ∈ spl S k acc l → w.length ≤ acc.length + l.length
  | [], acc, k, w, h => by
    rw [spl_nil] at h
    rw [List.mem_singleton.mp h]
    exact Nat.le_add_right _ _
  | c :: r, acc, 0, w, h => by
    cases e : pre S (c :: r) with
    | true =>
      rw [spl_hit e] at h
      rcases List.mem_cons.mp h with z | z
      · rw [z]
        exact Nat.le_add_right _ _
      · have := spl_len S r [] _ w z
        simp only [List.length_nil, List.length_cons] at this ⊢
        omega
    | false =>
      rw [spl_miss e] at h
      have := spl_len S r _ _ w h
      simp only [List.length_append, List.length_cons, List.length_nil] at this ⊢
      omega
  | c :: r, acc, k + 1, w, h => by
    have h : w ∈ spl S k acc r := h
    have := spl_len S r acc k w h
    simp only [List.length_cons]
    omega
theorem spl_ne (S : List Nat) : ∀ (l acc : List Nat) (k : Nat), spl S k acc l ≠ []
  | [], acc, k => by
    rw [spl_nil]
    simp
  | c :: r, acc, 0 => by
    cases e : pre S (c :: r) with
    | true =>
      rw [spl_hit e]
      simp
    | false =>
      rw [spl_miss e]
      exact spl_ne S r _ _
  | c :: r, acc, k + 1 => spl_ne S r acc k
theorem spl_count (S : List Nat) : ∀ (l acc : List Nat) (k : Nat), (spl S k acc l).length ≤ l.length + 1
  | [], acc, k => by
    rw [spl_nil]
    simp
  | c :: r, acc, 0 => by
    cases e : pre S (c :: r) with
    | true =>
      rw [spl_hit e]
      have := spl_count S r [] (S.length - 1)
      simp only [List.length_cons]
      omega
    | false =>
      rw [spl_miss e]
      have := spl_count S r (acc ++ [c]) 0
      simp only [List.length_cons]
      omega
  | c :: r, acc, k + 1 => by
    have := spl_count S r acc k
    show (spl S k acc r).length ≤ _
    simp only [List.length_cons]
    omega
theorem split_tl (x : Str) : Txt.split x (" " : Str) = (spl [32] 0 [] (tl x)).map SX.S := by
  have e : x = SX.S (tl x) := by
    cases x
    simp [SX.S, tl]
  rw [show Txt.split x (" " : Str) = Txt.split (SX.S (tl x)) (SX.S [32]) by rw [← e]; rfl]
  exact SX.split_S (by simp) (by decide)
theorem split_len {x w : Str} (h : w ∈ Txt.split x (" " : Str)) : w.length ≤ x.length := by
  rw [split_tl] at h
  obtain ⟨l, hl, rfl⟩ := List.mem_map.mp h
  have := spl_len [32] (tl x) [] 0 l hl
  rw [len_tl x]
  show (SX.S l).length ≤ _
  have e : (SX.S l).length = l.length := by simp [SX.S, Str.length]
  rw [e]
  simpa using this
theorem split_count {x : Str} : (Txt.split x (" " : Str)).length ≤ x.length + 1 := by
  rw [split_tl, List.length_map, len_tl x]
  exact spl_count _ _ _ _
theorem split_ne {x : Str} : Txt.split x (" " : Str) ≠ [] := by
  rw [split_tl]
  intro z
  exact spl_ne _ _ _ _ (List.map_eq_nil_iff.mp z)
section
variable {K : PySem.W.Frag} {σ : L2.St} {H : Hp} {a l : Addr} {xs ys : List V} {tl te ta td ty : TE} {t : TT} {D : Ends} {tu tz : TS} {j m : Nat}
theorem s_forEnum (h : Ev tl σ H (.ref a)) (hx : SqL K H a xs) (Pv : Nat → L2.St → Hp → Prop) (h0 : ∀ H1, Ex H H1 → Pv 0 σ H1) (hp : ∀ i σ' H', Pv i σ' H' → SqL K H' a xs)
    (hs : ∀ (i : Nat) x σ' H' H2, xs[i]? = some x → Pv i σ' H' → Ex H' H2 → tu { D with nx := Pv (i + 1), ct := Pv (i + 1), bk := D.nx } ((σ'.set j (some (.int (i : Int)))).set m (some x)) H2) (hd : ∀ σ' H', Pv xs.length σ' H' → D.nx σ' H') :
    tFor (iEnum K (tCons tl tNil)) (gTup K 2 (gCons (gName j) (gCons (gName m) gNil))) tu D σ H :=
  h H (Ex.refl H) _ fun H1 e1 => ⟨a, xs, rfl, ex_l e1 hx, for_it walk_enum Pv (h0 H1 e1) (fun i σ' H' _ p => hp i σ' H' p) (fun i v σ' H2 H3 hi p y => by
    obtain ⟨T, x, z, rfl, hT, rfl, ex, ez⟩ := y
    obtain rfl := (Option.some.inj ex)
    exact ⟨T, _, rfl, st_of upd_same, rfl, _, _, rfl, _, _, rfl, rfl, hs i z σ' H2 _ ez p (Ex.new hT)⟩) hd⟩
theorem q_forEnum (h : Ev tl σ H (.ref a)) (hx : SqL K H a xs) (Pv : Nat → L2.St → Hp → Prop) (h0 : ∀ H1, Ex H H1 → Pv 0 σ H1) (hp : ∀ i σ' H', Pv i σ' H' → SqL K H' a xs)
    (hs : ∀ (i : Nat) x σ' H' H2, xs[i]? = some x → Pv i σ' H' → Ex H' H2 → tu { D with nx := Pv (i + 1), ct := Pv (i + 1), bk := tz D } ((σ'.set j (some (.int (i : Int)))).set m (some x)) H2) (hd : ∀ σ' H', Pv xs.length σ' H' → tz D σ' H') :
    tSeq (tFor (iEnum K (tCons tl tNil)) (gTup K 2 (gCons (gName j) (gCons (gName m) gNil))) tu) tz D σ H :=
  s_forEnum (D := { D with nx := tz D }) h hx Pv h0 hp hs hd
/-- y = xs.pop() -/
theorem q_pop {v : V} (ha : Ev ta σ H (.ref l)) (hl : H l = some (.lst xs)) (hv : xs[xs.length - 1]? = some v) (k : ∀ H1, Ex H H1 → tz D (σ.set j (some v)) (upd H1 l (.lst xs.dropLast))) : tSeq (tAsg (tBM0 K "list" rPop ta) (gName j)) tz D σ H :=
  ha H (Ex.refl H) _ fun H1 e1 => ⟨.inl ⟨rfl, xs, sq_of (e1 _ _ hl)⟩, l, xs, v, rfl, rfl, e1 _ _ hl, hv, k H1 e1⟩
/-- xs.extend(a new list) -/
theorem s_extL (ha : Ev ta σ H (.ref l)) (hl : H l = some (.lst xs)) (h : EvL te σ H ys) (hz : xs.length + ys.length ≤ 100000) (k : ∀ H1, Ex H H1 → D.nx σ (upd H1 l (.lst (xs ++ ys)))) : tDrop (tBM K "list" rExtend ta (tCons te tNil)) D σ H :=
  ha H (Ex.refl H) _ fun H1 e1 => ⟨.inl ⟨rfl, xs, sq_of (e1 _ _ hl)⟩, h H1 e1 _ fun p H2 _ e2 h2 => ⟨l, p, xs, ys, rfl, rfl, e2 _ _ (e1 _ _ hl), h2, sz_of hz, k H2 (e1.trans e2)⟩⟩
end
end KNew
-- E13
namespace K87
open PySem PySem.Spec PyProof.Rows L2 Evl KEv TL KDd KSq KSame KTxt KHot KSup KNew KRvT KD
/-! fault, check -/
def argsOf (signs : List Sgn) (x : Str) : List Str := match signs.find? fun g => decide (g.1 = x) with
  | some g => g.2.1
  | none => []
/-- the first faulty word, behind i good ones; what is due, the next one first -/
def faultFrom (sorts : List Row) (signs : List Sgn) : Nat → List (Option Str) → List Str → Option Nat
  | i, due, [] => if due.isEmpty then none else some i
  | i, [], _ :: _ => some i
  | i, here :: due, x :: ws => if 200 ≤ i then some i else match wordSort sorts signs x 9 with
    | none => some i
    | some f => if here = none ∨ here = some f then faultFrom sorts signs (i + 1) ((argsOf signs x).map some ++ due) ws else some i
def faultOf (sorts : List Row) (signs : List Sgn) (text : Str) (wanted : Option Str) : Option Nat := faultFrom sorts signs 0 [wanted] (Txt.split text (" " : Str))
def oN : Option Nat → V
  | some i => .int (i : Int)
  | none => .non
def rNotN : R2 := fun x y H Q => y = .non ∧ Q (.bl (!decide (x = .non))) H
theorem op_notNon {X : Cx} : OpR X (compareOp .IsNot) rNotN := op_notN
theorem rv_notN {x : V} {H : Hp} : RV rNotN x .non H (.bl (!decide (x = .non))) := fun H1 _ _ q => ⟨rfl, q H1 (Ex.refl H1)⟩
theorem oV_non {o : Option Str} : decide (oV o = .non) = decide (o = none) := by
  cases o with
  | none => rfl
  | some x => rfl
section
variable {P : Program} {w : World} {K : PySem.W.Frag} {mg : Str → Option Value} {base : Heap} {ec fi : EK → Addr} {C : Addr}
/-- list(reversed(self._arguments.get(word, ()))) -/
theorem el_args {σ : L2.St} {H : Hp} {td ty : TE} {d : Addr} {sg : List (Sgn × Addr)} {x : Str} (hd : Ev td σ H (.ref d)) (hk : Ev ty σ H (.str x)) (h : H d = some (.dK (argK sg))) (ht : ∀ p ∈ sg, H p.2 = some (.tup (p.1.2.1.map V.str))) :
    EvL (tLstRev K (tDGet2 td ty (tTup tNil))) σ H ((argsOf (sg.map (·.1)) x).reverse.map V.str) := by
  have hv : valV (argK sg) (Sum.inr x) = (sg.find? fun p => decide (p.1.1 = x)).map fun p => V.ref p.2 := dkv_val
  have ea : argsOf (sg.map (·.1)) x = match sg.find? fun p => decide (p.1.1 = x) with
      | some p => p.1.2.1
      | none => [] := by
    unfold argsOf
    rw [find_sg]
    cases sg.find? fun p => decide (p.1.1 = x) <;> rfl
  intro H1 e Q q
  refine hd H1 e _ fun H2 e2 => ⟨d, rfl, .inl ⟨argK sg, .inl (e2 _ _ (e _ _ h))⟩, hk H2 (e.trans e2) _ fun H3 e3 => ⟨by show 0 ≤ sizeLine; decide, fun p hp => ?_⟩⟩
  have e4 : Ex H3 (upd H3 p (.tup [])) := Ex.new hp
  have e14 := (e2.trans e3).trans e4
  refine ⟨_, DGet.k (k := Sum.inr x) (e14 _ _ (e _ _ h)), ?_⟩
  rw [hv]
  cases b : sg.find? fun p => decide (p.1.1 = x) with
  | some r =>
    rw [b] at ea
    refine ⟨r.2, _, rfl, st_of (e14 _ _ (e _ _ (ht r (List.mem_of_find?_eq_some b)))), fun l hl => ?_⟩
    refine q l _ (fresh_back e14 hl) (e14.trans (Ex.new hl)) ?_
    rw [upd_same, ea, List.map_reverse]
  | none =>
    rw [b] at ea
    refine ⟨p, [], rfl, st_of upd_same, fun l hl => ?_⟩
    refine q l _ (fresh_back e14 hl) (e14.trans (Ex.new hl)) ?_
    rw [upd_same, ea]
    rfl
abbrev FltD (K : PySem.W.Frag) (f : Addr) (fd : FuncData) : Prop := FunD K "fault" "Signature.fault" (defArgs (sSig 8)) (defBody (sSig 8)) (defScope (sSig 8)) [.non] [] f fd
/-- what the queries need of a made signature -/
structure SigAt (C : Addr) (H : Hp) (a : Addr) (sorts : List Row) (signs : List Sgn) (pc ps pa pr : Addr) (sg : List (Sgn × Addr)) : Prop where
  at_ : AtI C H a [("_capitals", .ref pc), ("_sorts", .ref ps), ("_arguments", .ref pa), ("_results", .ref pr)]
  no : ∃ dx fs, H a = some (.ins C dx fs) ∧ ∀ m ∈ (["_add_sort", "_add_sign", "capital", "arguments", "result", "is_bare", "sort_of_word", "fault", "check"] : List Str), fs.lookup m = none
  pc : H pc = some (.dK (capK sorts))
  ps : H ps = some (.dK (sorK sorts))
  pa : H pa = some (.dK (argK sg))
  pr : H pr = some (.dK (resK sg))
  es : sg.map (·.1) = signs
  tup : ∀ p ∈ sg, H p.2 = some (.tup (p.1.2.1.map V.str))
theorem SigAt.mono {H H' : Hp} {a : Addr} {sorts : List Row} {signs : List Sgn} {pc ps pa pr : Addr} {sg : List (Sgn × Addr)} (h : SigAt C H a sorts signs pc ps pa pr sg) (e : Ex H H') : SigAt C H' a sorts signs pc ps pa pr sg := by
  obtain ⟨dx, fs, h1, h2⟩ := h.no
  exact ⟨h.at_.ex e, ⟨dx, fs, e _ _ h1, h2⟩, e _ _ h.pc, e _ _ h.ps, e _ _ h.pa, e _ _ h.pr, h.es, fun p hp => e _ _ (h.tup p hp)⟩
def spFault (C : Addr) : Sp := fun vs H Q _ => ∃ (a : Addr) (x : Str) (wanted : Option Str) (sorts : List Row) (signs : List Sgn) (pc ps pa pr : Addr) (sg : List (Sgn × Addr)), vs = [.ref a, .str x, oV wanted] ∧ SigAt C H a sorts signs pc ps pa pr sg ∧ x.length ≤ 100000 ∧ (∀ g ∈ signs, g.2.1.length ≤ 4) ∧ RetV (oN (faultOf sorts signs x wanted)) H Q
theorem scFlt : FnScope ["self", "text", "wanted", "due", "words", "place", "word", "here", "found"] ["self", "text", "wanted"] (defScope (sSig 8)) := ⟨rfl, rfl, rfl, by decide +kernel, rfl, by decide +kernel, by decide +kernel⟩
theorem args_len {signs : List Sgn} {x : Str} (h : ∀ g ∈ signs, g.2.1.length ≤ 4) : (argsOf signs x).length ≤ 4 := by
  unfold argsOf
  cases b : signs.find? fun g => decide (g.1 = x) with
  | some g => exact h g (List.mem_of_find?_eq_some b)
  | none => exact Nat.zero_le _
theorem ev_sow {σ : L2.St} {G : Hp} {a : Addr} {x : Str} {E : XK} {ta tw : TE} {sorts : List Row} {signs : List Sgn} {pc ps pa pr : Addr} {sg : List (Sgn × Addr)} (hS : SigAt C G a sorts signs pc ps pa pr sg) (ha : Ev ta σ G (.ref a)) (hw : Ev tw σ G (.str x)) (hl : x.length ≤ 100000) :
    Ev (tMeth C "sort_of_word" (spSortW C) [.int 9] E ta (tCons tw tNil)) σ G (oV (wordSort sorts signs x 9)) := fun H1 e Q q =>
  ha H1 e _ fun H2 e2 => by
    obtain ⟨dx, fs, h1, h2⟩ := hS.no
    obtain ⟨dx', fs', h3, h4⟩ := hS.at_
    refine ⟨a, dx, fs, rfl, e2 _ _ (e _ _ h1), h2 _ (by decide), hw H2 (e.trans e2) _ fun H3 e3 => ?_⟩
    have e13 := (e.trans e2).trans e3
    refine ⟨a, x, 9, ps, pr, sorts, sg, rfl, ⟨dx', fs', e13 _ _ h3, fun m hm => h4 m ?_⟩, e13 _ _ hS.ps, e13 _ _ hS.pr, hl, fun H4 e4 => ?_⟩
    · simp only [List.mem_cons, List.not_mem_nil, or_false] at hm ⊢
      rcases hm with rfl | rfl
      · exact .inr (.inl rfl)
      · exact .inr (.inr (.inr rfl))
    · rw [hS.es]
      exact q H4 ((e2.trans e3).trans e4)
theorem ok_fault {f f7 : Addr} {fd fd7 : FuncData} {ds7 : List Value} (F : FltD K f fd) (S : SigC K C) (m7 : Meth K C "sort_of_word" f7) (G7 : FnOk P w K mg base CX0 2 f7 fd7 ["self", "word", "digits"] (spSortW C)) (b7 : Binds K fd7 ["self", "word", "digits"] ds7) (v7 : Vals [.int 9] ds7) (N : Nm mg) (M : NmS mg) (mR : mg "reversed" = none) (mE : mg "enumerate" = none) {tk : Tok} (gM : mg "MOST_WORDS" = some (.int 200 tk)) : FnOk P w K mg base CX0 3 f fd ["self", "text", "wanted"] (spFault C) := by
  refine F.ok scFlt (fun vs H Q E h => ?_) (fun cdv A outer s H vs Q E hr h => ?_)
  · obtain ⟨a, x, wanted, sorts, signs, pc, ps, pa, pr, sg, rfl, _⟩ := h
    rfl
  · obtain ⟨a, x, wanted, sorts, signs, pc, ps, pa, pr, sg, rfl, hS, hx, h4, k⟩ := h
    have hu := hu_of hr
    refine ⟨_, PSs.nox (pss_cons (ps_set (i := 3) scFlt.nd rfl (.inl rfl) (pe_lst (pa_cons (pv 2) pa_nil)))
      (pss_cons (ps_set (i := 4) scFlt.nd rfl (.inl rfl) (pe_splitS (pv 1) pe_str))
      (pss_cons (ps_for PassesOwn.never rfl (pi_enum (by rfl) mE (pa_cons (pv 4) pa_nil)) (pg_tup rfl (pgs_cons (pg_name (i := 5) scFlt.nd rfl (.inl rfl)) (pgs_cons (pg_name (i := 6) scFlt.nd rfl (.inl rfl)) pgs_nil)))
        (pss_cons (ps_if (PW.pt (pw_or (pt_not (pt_tru (pv 3))) (pw_or1 (pt_cmpR op_ge (pv 5) (pe_glob (v := .int 200) rfl gM ⟨_, rfl⟩) (nomark _))))) (pss_one (ps_ret (pv 5))) pss_nil)
        (pss_cons (ps_asg (pe_bm0 PySem.F.plainAttrs_list PySem.F.slot_list_pop PySem.F.type_list_pop mt_pop (pv 3)) (pg_name (i := 7) scFlt.nd rfl (.inl rfl)))
        (pss_cons (ps_asg (pe_meth (pv 0) S.cl m7 G7 hr b7 v7 pass0 (pa_cons (pv 6) pa_nil)) (pg_name (i := 8) scFlt.nd rfl (.inl rfl)))
        (pss_cons (ps_if (PW.pt (pw_or (pt_cmpR op_isNon (pv 8) pe_non (nomark _)) (pw_or1 (PW.pt (pw_and (pt_cmpR op_notNon (pv 7) pe_non (nomark _)) (pw_and1 (pt_cmpR op_ne (pv 7) (pv 8) (nomark _)))))))) (pss_one (ps_ret (pv 5))) pss_nil)
        (pss_one (ps_expr (pe_bm PySem.F.plainAttrs_list PySem.F.slot_list_extend PySem.F.type_list_extend mt_extend (pv 3) (pa_cons (pe_lstRev rfl (by rfl) M.list (by rfl) mR (pe_dget2 hu (pe_fld (pv 0) (by rfl)) (pv 6) (pe_tup pa_nil) ⟨rfl, rfl, rfl, rfl⟩)) pa_nil)))))))))
      (pss_cons (ps_if (pt_tru (pv 3)) (pss_one (ps_ret (pe_callB call_len_seq (by rfl) N.len PySem.boot_len (pa_cons (pv 4) pa_nil)))) pss_nil) (pss_one (ps_ret pe_non)))))), ?_⟩
    refine q_asgL (el_lst (ea_cons (ev_var rfl) ea_nil) (by simp)) fun pd H1 np1 e1 h1 => ?_
    refine q_asgL (el_split (ev_var rfl) ev_c (by decide) (by omega)) fun pw H2 np2 e2 h2 => ?_
    have wl : ∀ w ∈ Txt.split x (" " : Str), w.length ≤ 100000 := fun w hw => Nat.le_trans (split_len hw) hx
    have hdw : pw ≠ pd := fun z => by
      rw [z, h1] at np2
      cases np2
    have np2 : H pw = none := fresh_back e1 np2
    unfold faultOf at k
    generalize Txt.split x (" " : Str) = ws at h2 wl k
    refine q_forEnum (xs := ws.map V.str) (ev_var rfl) (sq_of h2) (fun i σ' H' => ∃ (due : List (Option Str)) (u5 u6 u7 u8 : Option V), σ' = [some (.ref a), some (.str x), some (oV wanted), some (.ref pd), some (.ref pw), u5, u6, u7, u8] ∧ Ex H H' ∧ H' pw = some (.lst (ws.map V.str)) ∧ H' pd = some (.lst (due.reverse.map oV)) ∧ faultFrom sorts signs 0 [wanted] ws = faultFrom sorts signs i due (ws.drop i) ∧ due.length ≤ 1 + 4 * i ∧ i ≤ 200)
      (fun H3 e3 => ⟨[wanted], none, none, none, none, rfl, (e1.trans e2).trans e3, e3 _ _ h2, e3 _ _ (e2 _ _ h1), rfl, by simp, by omega⟩) (fun i σ' H' p => by
        obtain ⟨_, _, _, _, _, _, _, z, _⟩ := p
        exact sq_of z) (fun i v σ' H3 H4 hv p e4 => ?_) (fun σ' H' p => ?_)
    · obtain ⟨due, u5, u6, u7, u8, rfl, e3, hw3, hd3, hff, hl, hi⟩ := p
      rw [List.getElem?_map] at hv
      cases ew : ws[i]? with
      | none => rw [ew] at hv; cases hv
      | some w =>
        rw [ew] at hv
        obtain rfl : V.str w = v := Option.some.inj hv
        rw [drop_at ew] at hff
        have e3 := e3.trans e4
        have hw4 := e4 _ _ hw3
        have hd4 := e4 _ _ hd3
        have hwl := wl w (List.mem_of_getElem? ew)
        cases due with
        | nil =>
          have ff : faultFrom sorts signs 0 [wanted] ws = some i := hff
          rw [ff] at k
          exact q_when (b := true) (et_or (a := true) (b := true) (et_is (et_not (et_truL (xs := []) (ev_var rfl) (sq_of hd4))) rfl) fun z => by cases z) (fun _ H5 e5 => s_ret (ev_var rfl) fun H6 e6 => k H6 ((e3.trans e5).trans e6)) (fun z => by cases z)
        | cons here due =>
          have hrev : (here :: due).reverse.map oV = due.reverse.map oV ++ [oV here] := by simp
          rw [hrev] at hd4
          have hne : (due.reverse.map oV ++ [oV here]).isEmpty = false := by simp
          by_cases h200 : 200 ≤ i
          · have ff : faultFrom sorts signs 0 [wanted] ws = some i := by
              rw [hff, faultFrom, if_pos h200]
            rw [ff] at k
            exact q_when (b := true) (et_or (a := false) (b := true) (et_is (et_not (et_truL (ev_var rfl) (sq_of hd4))) (by rw [hne]; rfl)) fun _ => et_is (et_test (ev_op (ev_var rfl) ev_c rv_I0)) (decide_eq_true (by omega))) (fun _ H5 e5 => s_ret (ev_var rfl) fun H6 e6 => k H6 ((e3.trans e5).trans e6)) (fun z => by cases z)
          · refine q_when (b := false) (et_or (a := false) (b := false) (et_is (et_not (et_truL (ev_var rfl) (sq_of hd4))) (by rw [hne]; rfl)) fun _ => et_is (et_test (ev_op (ev_var rfl) ev_c rv_I0)) (decide_eq_false (by omega))) (fun z => by cases z) (fun _ H5 e5 => ?_)
            refine q_pop (v := oV here) (ev_var rfl) (e5 _ _ hd4) (by simp) fun H6 e6 => ?_
            rw [List.dropLast_concat]
            have hw6' := e6 _ _ (e5 _ _ hw4)
            have e6 := (e3.trans (e5.trans e6)).mut (o := .lst (due.reverse.map oV)) np1
            have hw6 : (upd H6 pd (.lst (due.reverse.map oV))) pw = some (.lst (ws.map V.str)) := by
              rw [upd_ne hdw]
              exact hw6'
            have hd6 : (upd H6 pd (.lst (due.reverse.map oV))) pd = some (.lst (due.reverse.map oV)) := upd_same
            generalize (upd H6 pd (.lst (due.reverse.map oV))) = H7 at e6 hw6 hd6
            refine q_asg (ev_sow (hS.mono e6) (ev_var rfl) (ev_var rfl) hwl) fun H8 e8 => ?_
            have e8' := e6.trans e8
            cases hf : wordSort sorts signs w 9 with
            | none =>
              have ff : faultFrom sorts signs 0 [wanted] ws = some i := by
                rw [hff, faultFrom, if_neg h200, hf]
              rw [ff] at k
              exact q_when (b := true) (et_or (a := true) (b := true) (et_test (ev_op (ev_var rfl) ev_c rv_isN)) fun z => by cases z) (fun _ H9 e9 => s_ret (ev_var rfl) fun H10 e10 => k H10 ((e8'.trans e9).trans e10)) (fun z => by cases z)
            | some f =>
              rw [faultFrom, if_neg h200, hf] at hff
              have ht : EvT (tOr (tTest (tOp rIsN (tVar 8) (tC .non))) (tAnd (tTest (tOp rNotN (tVar 7) (tC .non))) (tTest (tOp rNe (tVar 7) (tVar 8))))) [some (.ref a), some (.str x), some (oV wanted), some (.ref pd), some (.ref pw), some (.int i), some (.str w), some (oV here), some (.str f)] H8 (!decide (here = none ∨ here = some f)) := by
                refine et_is (et_or (b := !decide (here = none ∨ here = some f)) (et_test (ev_op (ev_var rfl) ev_c rv_isN)) fun _ => ?_) rfl
                cases here with
                | none => exact et_is (et_and (b := true) (et_test (ev_op (ev_var rfl) ev_c rv_notN)) fun z => by cases z) rfl
                | some g => exact et_is (et_and (b := !decide (V.str g = V.str f)) (et_test (ev_op (ev_var rfl) ev_c rv_notN)) fun _ => et_test (ev_op (ev_var rfl) (ev_var rfl) (rv_ne rfl))) (by simp [oV])
              by_cases hq : here = none ∨ here = some f
              · simp only [hq, if_true] at hff
                refine q_when (b := false) (et_is ht (by simp [hq])) (fun z => by cases z) (fun _ H9 e9 => ?_)
                have e9' := e8'.trans e9
                refine s_extL (ev_var rfl) (e9 _ _ (e8 _ _ hd6)) (el_args (sg := sg) (ev_fld S (ev_var rfl) (hS.at_.ex e9') (f := "_arguments") (v := .ref pa) (List.mem_cons_of_mem _ (List.mem_cons_of_mem _ List.mem_cons_self)) (by decide)) (ev_var rfl) (e9' _ _ hS.pa) (fun p hp => e9' _ _ (hS.tup p hp))) ?_ fun H10 e10 => ?_
                · have := args_len (x := w) h4
                  rw [hS.es]
                  simp only [List.length_map, List.length_reverse, List.length_cons] at hl ⊢
                  omega
                · have e10' := (e9'.trans e10).mut (o := .lst (due.reverse.map oV ++ (argsOf (sg.map (·.1)) w).reverse.map V.str)) np1
                  refine ⟨(argsOf signs w).map some ++ due, _, _, _, _, rfl, e10', ?_, ?_, hff, ?_, by omega⟩
                  · rw [upd_ne hdw]
                    exact e10 _ _ (e9 _ _ (e8 _ _ hw6))
                  · rw [upd_same, hS.es]
                    simp [List.map_reverse, Function.comp_def, oV]
                  · have := args_len (x := w) h4
                    simp only [List.length_append, List.length_map, List.length_cons] at hl ⊢
                    omega
              · simp only [hq, if_false] at hff
                rw [hff] at k
                exact q_when (b := true) (et_is ht (by simp [hq])) (fun _ H9 e9 => s_ret (ev_var rfl) fun H10 e10 => k H10 ((e8'.trans e9).trans e10)) (fun z => by cases z)
    · obtain ⟨due, u5, u6, u7, u8, rfl, e3, hw3, hd3, hff, hl, hi⟩ := p
      rw [List.length_map] at hff hl hi
      rw [List.drop_length] at hff
      have hff : faultFrom sorts signs 0 [wanted] ws = if due.isEmpty then none else some ws.length := hff
      rw [hff] at k
      cases due with
      | nil => exact q_when (b := false) (et_is (et_truL (xs := []) (ev_var rfl) (sq_of hd3)) rfl) (fun z => by cases z) (fun _ H5 e5 => s_ret ev_c fun H6 e6 => k H6 ((e3.trans e5).trans e6))
      | cons here due => exact q_when (b := true) (et_is (et_truL (ev_var rfl) (sq_of hd3)) (by simp)) (fun _ H5 e5 => s_ret (ev_is (ev_len (ev_var rfl) (sq_of (e5 _ _ hw3))) (by rw [List.length_map]; rfl)) fun H6 e6 => k H6 ((e3.trans e5).trans e6)) (fun z => by cases z)
end
end K87
-- E14
namespace K87
open PySem PySem.Spec PyProof.Rows L2 Evl KEv TL KDd KSq KSame KTxt KHot KSup KNew KRvT KD
/-! check -/
def RaisesV (ec : EK → Addr) (k : EK) (us : List V) (H : Hp) (E : XK) : Prop := ∀ d H', H d = none → Ex H H' → H' d = some (.xd ((fl k).zip us).reverse) → E (.ref (ec k)) (some d) H'
def spCheck (ec : EK → Addr) (C : Addr) : Sp := fun vs H Q E => ∃ (a : Addr) (x : Str) (wanted : Option Str) (sorts : List Row) (signs : List Sgn) (pc ps pa pr : Addr) (sg : List (Sgn × Addr)), vs = [.ref a, .str x, oV wanted] ∧ SigAt C H a sorts signs pc ps pa pr sg ∧ x.length ≤ 100000 ∧ (∀ g ∈ signs, g.2.1.length ≤ 4) ∧
  (∀ i, faultOf sorts signs x wanted = some i → RaisesV ec .term [.str x, .int (i : Int)] H E) ∧ (faultOf sorts signs x wanted = none → ∀ w, (Txt.split x (" " : Str))[0]? = some w → RetV (oV (wordSort sorts signs w 9)) H Q)
abbrev ChkD (K : PySem.W.Frag) (f : Addr) (fd : FuncData) : Prop := FunD K "check" "Signature.check" (defArgs (sSig 9)) (defBody (sSig 9)) (defScope (sSig 9)) [.non] [] f fd
theorem scChk : FnScope ["self", "text", "wanted", "place"] ["self", "text", "wanted"] (defScope (sSig 9)) := ⟨rfl, rfl, rfl, by decide +kernel, rfl, by decide +kernel, by decide +kernel⟩
section
variable {P : Program} {w : World} {K : PySem.W.Frag} {mg : Str → Option Value} {base : Heap} {ec fi : EK → Addr} {C : Addr}
theorem ev_flt {σ : L2.St} {G : Hp} {a : Addr} {x : Str} {wanted : Option Str} {E : XK} {ta tx tw : TE} {sorts : List Row} {signs : List Sgn} {pc ps pa pr : Addr} {sg : List (Sgn × Addr)} (hS : SigAt C G a sorts signs pc ps pa pr sg) (h4 : ∀ g ∈ signs, g.2.1.length ≤ 4) (ha : Ev ta σ G (.ref a)) (hx : Ev tx σ G (.str x)) (hw : Ev tw σ G (oV wanted)) (hl : x.length ≤ 100000) :
    Ev (tMeth C "fault" (spFault C) [] E ta (tCons tx (tCons tw tNil))) σ G (oN (faultOf sorts signs x wanted)) := fun H1 e Q q =>
  ha H1 e _ fun H2 e2 => by
    obtain ⟨dx, fs, h1, h2⟩ := hS.no
    refine ⟨a, dx, fs, rfl, e2 _ _ (e _ _ h1), h2 _ (by decide), hx H2 (e.trans e2) _ fun H3 e3 => hw H3 ((e.trans e2).trans e3) _ fun H4 e4 => ?_⟩
    have e14 := ((e.trans e2).trans e3).trans e4
    exact ⟨a, x, wanted, sorts, signs, pc, ps, pa, pr, sg, rfl, hS.mono e14, hl, h4, fun H5 e5 => q H5 (((e2.trans e3).trans e4).trans e5)⟩
theorem ev_flt1 {σ : L2.St} {G : Hp} {a : Addr} {x : Str} {E : XK} {ta tx : TE} {sorts : List Row} {signs : List Sgn} {pc ps pa pr : Addr} {sg : List (Sgn × Addr)} (hS : SigAt C G a sorts signs pc ps pa pr sg) (h4 : ∀ g ∈ signs, g.2.1.length ≤ 4) (ha : Ev ta σ G (.ref a)) (hx : Ev tx σ G (.str x)) (hl : x.length ≤ 100000) :
    Ev (tMeth C "fault" (spFault C) [.non] E ta (tCons tx tNil)) σ G (oN (faultOf sorts signs x none)) := fun H1 e Q q =>
  ha H1 e _ fun H2 e2 => by
    obtain ⟨dx, fs, h1, h2⟩ := hS.no
    refine ⟨a, dx, fs, rfl, e2 _ _ (e _ _ h1), h2 _ (by decide), hx H2 (e.trans e2) _ fun H3 e3 => ?_⟩
    exact ⟨a, x, none, sorts, signs, pc, ps, pa, pr, sg, rfl, hS.mono ((e.trans e2).trans e3), hl, h4, fun H5 e5 => q H5 ((e2.trans e3).trans e5)⟩
theorem ok_check {f f7 f8 : Addr} {fd fd7 fd8 : FuncData} {ds7 : List Value} (F : ChkD K f fd) (S : SigC K C) (E0 : Errs P K mg ec fi) (m7 : Meth K C "sort_of_word" f7) (G7 : FnOk P w K mg base CX0 2 f7 fd7 ["self", "word", "digits"] (spSortW C)) (b7 : Binds K fd7 ["self", "word", "digits"] ds7) (v7 : Vals [.int 9] ds7)
    (m8 : Meth K C "fault" f8) (G8 : FnOk P w K mg base CX0 3 f8 fd8 ["self", "text", "wanted"] (spFault C)) (b8 : Binds K fd8 ["self", "text", "wanted"] []) : FnOk P w K mg base (L2N.CX P w) 4 f fd ["self", "text", "wanted"] (spCheck ec C) := by
  refine F.ok scChk (fun vs H Q E h => ?_) (fun cdv A outer s H vs Q E hr h => ?_)
  · obtain ⟨a, x, wanted, sorts, signs, pc, ps, pa, pr, sg, rfl, _⟩ := h
    rfl
  · obtain ⟨a, x, wanted, sorts, signs, pc, ps, pa, pr, sg, rfl, hS, hx, h4, kf, kn⟩ := h
    have tk := L2N.takes_of (X := cxOf (L2N.CX P w) P w K mg base ["self", "text", "wanted", "place"] "Signature.check" (defScope (sSig 9)) f cdv A outer s H E) rfl rfl rfl rfl
    refine ⟨_, pss_cons (ps_set (i := 3) scChk.nd rfl (.inl rfl) (pe_meth (pv 0) S.cl m8 G8 hr b8 .nil pass0 (pa_cons (pv 1) (pa_cons (pv 2) pa_nil))))
      (pss_cons (ps_if (pt_cmpR op_notNon (pv 3) pe_non (nomark _)) (pss_one (L2N.ps_raise rfl tk (pmk_sup (x := "BadTerm") (E0.t .term) (by decide) hr (pa_cons (pv 1) (pa_cons (pv 3) pa_nil)) (by rfl)))) pss_nil)
      (pss_one (ps_ret (pe_meth (pv 0) S.cl m7 G7 (hr.mono (by decide)) b7 v7 pass0 (pa_cons (pe_ix ix_list (pe_splitS (pv 1) pe_str) pe_int (fun _ _ => rfl)) pa_nil))))), ?_⟩
    refine q_asg (ev_flt hS h4 (ev_var rfl) (ev_var rfl) (ev_var rfl) hx) fun H1 e1 => ?_
    cases hf : faultOf sorts signs x wanted with
    | some i =>
      refine q_when (b := true) (et_test (ev_op (ev_var rfl) ev_c rv_notN)) (fun _ H2 e2 => ?_) (fun z => by cases z)
      exact (ea_cons (ev_var rfl) (ea_cons (ev_var rfl) ea_nil)) H2 (Ex.refl H2) _ fun H3 e3 => ⟨rfl, fun d hd => kf i hf d _ (fresh_back ((e1.trans e2).trans e3) hd) (((e1.trans e2).trans e3).trans (Ex.new hd)) upd_same⟩
    | none =>
      refine q_when (b := false) (et_test (ev_op (ev_var rfl) ev_c rv_notN)) (fun z => by cases z) (fun _ H2 e2 => ?_)
      have e2 := e1.trans e2
      obtain ⟨w, hw⟩ : ∃ w, (Txt.split x (" " : Str))[0]? = some w := ⟨_, List.getElem?_eq_getElem (List.length_pos_iff.mpr split_ne)⟩
      have hwl := Nat.le_trans (split_len (List.mem_of_getElem? hw)) hx
      refine s_ret (ev_sow (hS.mono e2) (ev_var rfl) (ev_opL1 (el_split (ev_var rfl) ev_c (by decide) (by omega)) (fun _ _ => ev_c) fun p H3 h3 e3 => rv_ixL (sq_of h3) (atI_nat (j := 0) (by rw [List.getElem?_map, hw]; rfl))) hwl) fun H3 e3 => kn hf w hw H3 (e2.trans e3)
end
end K87
-- L1
/-! letters: a capital and a number as it is written; the two keys of the order agree -/
namespace K87
open PySem PySem.Spec PyProof.Rows L2 Evl KEv TL KDd NumText
def IsLet (x : Str) : Prop := ∃ c n, c ∈ tl capitals ∧ tl x = c :: numL n ∧ x.length ≤ 400
def capOf (x : Str) : Nat := (tl x).headD 0
def numOf (x : Str) : Nat := digitsVal ((tl x).drop 1)
theorem cps_eq {x : Str} {i : Nat} : x.cps[i]? = (tl x)[i]? := Array.getElem?_toList.symm
theorem IsLet.cap {x : Str} (h : IsLet x) : x.cps[0]? = some (capOf x) ∧ capOf x ∈ tl capitals := by
  obtain ⟨c, n, hc, e, _⟩ := h
  have e1 : capOf x = c := by
    unfold capOf
    rw [e]
    rfl
  rw [cps_eq, e, e1]
  exact ⟨rfl, hc⟩
theorem IsLet.pos {x : Str} (h : IsLet x) : 2 ≤ x.length ∧ x.length ≤ 400 := by
  obtain ⟨c, n, hc, e, hl⟩ := h
  have h1 := numL_ne n
  have h2 : 1 ≤ (numL n).length := by
    cases q : numL n with
    | nil => exact absurd q h1
    | cons a b => simp
  refine ⟨?_, hl⟩
  rw [len_tl, e, List.length_cons]
  omega
theorem IsLet.num {x : Str} (h : IsLet x) : PySem.intText? (cutS x (some 1) none) = some (numOf x : Int) ∧ (cutS x (some 1) none).length ≤ 400 := by
  obtain ⟨c, n, hc, e, hl⟩ := h
  have e2 : tl (cutS x (some 1) none) = numL n := by
    rw [tl_cut1, e]
    rfl
  have e3 : (cutS x (some 1) none).length ≤ 400 := Nat.le_trans (cutS_length x (some 1) none) hl
  refine ⟨?_, e3⟩
  have e4 : (cutS x (some 1) none).cps.toList = numL n := e2
  have := intText_digits (x := cutS x (some 1) none) (by rw [e4]; exact numL_digits n) (by rw [e4]; exact numL_ne n) (by omega)
  rw [this, e4]
  unfold numOf
  rw [e]
  rfl
theorem IsLet.shape {x : Str} (h : IsLet x) : tl x = capOf x :: numL (numOf x) := by
  obtain ⟨c, n, hc, e, hl⟩ := h
  unfold capOf numOf
  rw [e]
  show c :: numL n = c :: numL (digitsVal (numL n))
  rw [numL_val]
/-! numbers in order and their writings -/
theorem dv_lt : ∀ (l : List Nat) (a : Nat), AllDigits l → l.foldl (fun acc c => acc * 10 + (c - 48)) a < (a + 1) * 10 ^ l.length := by
  intro l
  induction l with
  | nil => intro a _; simp
  | cons c r ih =>
    intro a h
    have hc := h.head
    have h1 := ih (a * 10 + (c - 48)) h.tail
    rw [List.foldl_cons, List.length_cons, Nat.pow_succ]
    have h2 : a * 10 + (c - 48) + 1 ≤ (a + 1) * 10 := by omega
    have h3 := Nat.mul_le_mul_right (10 ^ r.length) h2
    calc _ < (a * 10 + (c - 48) + 1) * 10 ^ r.length := h1
      _ ≤ (a + 1) * 10 * 10 ^ r.length := h3
      _ = (a + 1) * (10 ^ r.length * 10) := by rw [Nat.mul_assoc, Nat.mul_comm 10]
theorem dv_ge : ∀ (l : List Nat) (a : Nat), a * 10 ^ l.length ≤ l.foldl (fun acc c => acc * 10 + (c - 48)) a := by
  intro l
  induction l with
  | nil => intro a; simp
  | cons c r ih =>
    intro a
    have h1 := ih (a * 10 + (c - 48))
    rw [List.foldl_cons, List.length_cons, Nat.pow_succ]
    have h3 := Nat.mul_le_mul_right (10 ^ r.length) (show a * 10 ≤ a * 10 + (c - 48) by omega)
    calc a * (10 ^ r.length * 10) = a * 10 * 10 ^ r.length := by rw [Nat.mul_assoc, Nat.mul_comm 10]
      _ ≤ _ := h3
      _ ≤ _ := h1
theorem dv_mono : ∀ (l r : List Nat) (a b : Nat), l.length = r.length → AllDigits l → AllDigits r → a < b → l.foldl (fun acc c => acc * 10 + (c - 48)) a < r.foldl (fun acc c => acc * 10 + (c - 48)) b := by
  intro l r a b hl h1 h2 hab
  have z1 := dv_lt l a h1
  have z2 := dv_ge r b
  rw [hl] at z1
  have z3 := Nat.mul_le_mul_right (10 ^ r.length) (show a + 1 ≤ b from hab)
  omega
theorem dv_lex : ∀ (l r : List Nat) (a : Nat), l.length = r.length → AllDigits l → AllDigits r → (l.foldl (fun acc c => acc * 10 + (c - 48)) a < r.foldl (fun acc c => acc * 10 + (c - 48)) a ↔ l < r) := by
  intro l
  induction l with
  | nil =>
    intro r a hl _ _
    cases r with
    | nil => simp
    | cons c r => simp at hl
  | cons c l ih =>
    intro r a hl h1 h2
    cases r with
    | nil => simp at hl
    | cons d r =>
      have hl' : l.length = r.length := by simpa using hl
      have hc := h1.head
      have hd := h2.head
      rw [List.foldl_cons, List.foldl_cons, List.cons_lt_cons_iff]
      rcases Nat.lt_trichotomy c d with h | h | h
      · have := dv_mono l r (a * 10 + (c - 48)) (a * 10 + (d - 48)) hl' h1.tail h2.tail (by omega)
        exact ⟨fun _ => .inl h, fun _ => this⟩
      · subst h
        rw [ih r _ hl' h1.tail h2.tail]
        exact ⟨fun z => .inr ⟨rfl, z⟩, fun z => z.elim (fun z => absurd z (Nat.lt_irrefl _)) fun z => z.2⟩
      · have := dv_mono r l (a * 10 + (d - 48)) (a * 10 + (c - 48)) hl'.symm h2.tail h1.tail (by omega)
        exact ⟨fun z => by omega, fun z => z.elim (fun z => by omega) fun z => by omega⟩
theorem numL_lt_pow (n : Nat) : n < 10 ^ (numL n).length := by
  have h := dv_lt (numL n) 0 (numL_digits n)
  have e : (numL n).foldl (fun acc c => acc * 10 + (c - 48)) 0 = n := numL_val n
  rw [e] at h
  simpa using h
theorem numL_len_mono {m n : Nat} (h : m ≤ n) : (numL m).length ≤ (numL n).length := by
  have h1 : 0 < (numL n).length := List.length_pos_iff.mpr (numL_ne n)
  exact numL_len h1 (Nat.lt_of_le_of_lt h (numL_lt_pow n))
/-- by number, or by length and then sign by sign -/
theorem num_order (m n : Nat) : m < n ↔ (numL m).length < (numL n).length ∨ (numL m).length = (numL n).length ∧ numL m < numL n := by
  rcases Nat.lt_trichotomy (numL m).length (numL n).length with h | h | h
  · refine ⟨fun _ => .inl h, fun _ => ?_⟩
    exact Decidable.byContradiction fun z => by
      have := numL_len_mono (show n ≤ m by omega)
      omega
  · have z := dv_lex (numL m) (numL n) 0 h (numL_digits m) (numL_digits n)
    have e1 : (numL m).foldl (fun acc c => acc * 10 + (c - 48)) 0 = m := numL_val m
    have e2 : (numL n).foldl (fun acc c => acc * 10 + (c - 48)) 0 = n := numL_val n
    rw [e1, e2] at z
    rw [z]
    exact ⟨fun q => .inr ⟨h, q⟩, fun q => q.elim (fun q => by omega) fun q => q.2⟩
  · refine ⟨fun z => ?_, fun z => z.elim (fun z => by omega) fun z => by omega⟩
    have := numL_len_mono (show m ≤ n by omega)
    omega
/-! the two keys -/
def keyN (x : Str) : PyData := .tuple [.str ⟨#[capOf x]⟩, .int (numOf x : Int)]
abbrev keyL : Str → PyData := KLamS.lamKey capOf
end K87
-- L2k
namespace K87
open PySem PySem.Spec PyProof.Rows L2 Evl KEv TL KDd NumText PySem.W
theorem str_eq_iff {x y : Str} : x = y ↔ tl x = tl y := by
  constructor
  · intro h
    rw [h]
  · intro h
    cases x with
    | mk a => cases y with
      | mk b =>
        have : a = b := Array.toList_inj.mp h
        rw [this]
theorem one_lt (c d : Nat) : dataLt (.str ⟨#[c]⟩) (.str ⟨#[d]⟩) = decide (c < d) := by
  rw [dataLt_str]
  apply decide_eq_decide.mpr
  show [c] < [d] ↔ _
  rw [List.cons_lt_cons_iff]
  constructor
  · intro h
    rcases h with h | ⟨_, h⟩
    · exact h
    · exact absurd h (by simp)
  · exact fun h => .inl h
theorem one_eqv (c d : Nat) : PyData.eqv (.str ⟨#[c]⟩) (.str ⟨#[d]⟩) = decide (c = d) := by
  simp only [PyData.eqv]
  by_cases h : c = d
  · subst h
    simp
  · have : ¬ ((⟨#[c]⟩ : Str) = ⟨#[d]⟩) := fun z => h (by
      have h2 := congrArg tl z
      have h3 : [c] = [d] := h2
      exact List.head_eq_of_cons_eq h3)
    simp [h, this]
theorem keyN_lt (x y : Str) : dataLt (keyN x) (keyN y) = decide (capOf x < capOf y ∨ capOf x = capOf y ∧ numOf x < numOf y) := by
  unfold keyN
  rw [dataLt_pair rfl rfl, one_eqv, one_lt, dataLt_int]
  simp only [PyData.eqv]
  by_cases h : capOf x = capOf y
  · by_cases h2 : numOf x = numOf y
    · simp [h, h2]
    · have : ¬ ((numOf x : Int) = (numOf y : Int)) := by omega
      simp [h, this]
  · simp [h]
theorem lt3 {a a' b b' c c' : PyData} (h1 : alike a a' = true) (h2 : alike b b' = true) (h3 : alike c c' = true) : dataLt (.tuple [a, b, c]) (.tuple [a', b', c']) = if PyData.eqv a a' = true then (if PyData.eqv b b' = true then (if PyData.eqv c c' = true then false else dataLt c c') else dataLt b b') else dataLt a a' := by
  rw [dataLt_tuple, dataLt_cons h1, dataLt_cons h2, dataLt_cons h3]
  have e : PyProof.Rows.lexLt itemOrd (keyToksAll []) (keyToksAll []) = false := lex_irrefl _
  rw [e]
theorem int_eqv (a b : Int) : PyData.eqv (.int a) (.int b) = decide (a = b) := by
  simp only [PyData.eqv]
  by_cases h : a = b <;> simp [h]
theorem str_eqv (a b : Str) : PyData.eqv (.str a) (.str b) = decide (a = b) := by
  simp only [PyData.eqv]
  by_cases h : a = b <;> simp [h]
theorem list_irr (l : List Nat) : ¬ l < l := List.lt_irrefl l
theorem keyL_lt {x y : Str} (hx : IsLet x) (hy : IsLet y) : dataLt (keyL x) (keyL y) = decide (capOf x < capOf y ∨ capOf x = capOf y ∧ numOf x < numOf y) := by
  show dataLt (.tuple [.str ⟨#[capOf x]⟩, .int (x.length : Int), .str x]) (.tuple [.str ⟨#[capOf y]⟩, .int (y.length : Int), .str y]) = _
  rw [lt3 rfl rfl rfl, one_eqv, one_lt, dataLt_int, dataLt_str]
  have lx : x.length = (numL (numOf x)).length + 1 := by rw [len_tl, hx.shape]; rfl
  have ly : y.length = (numL (numOf y)).length + 1 := by rw [len_tl, hy.shape]; rfl
  have tx : x.cps.toList = capOf x :: numL (numOf x) := hx.shape
  have ty : y.cps.toList = capOf y :: numL (numOf y) := hy.shape
  have ord := num_order (numOf x) (numOf y)
  by_cases h : capOf x = capOf y
  · rw [if_pos (decide_eq_true h)]
    have e0 : (capOf x < capOf y ∨ capOf x = capOf y ∧ numOf x < numOf y) ↔ numOf x < numOf y := ⟨fun z => z.elim (fun z => by omega) fun z => z.2, fun z => .inr ⟨h, z⟩⟩
    rw [decide_eq_decide.mpr e0]
    rw [int_eqv, str_eqv]
    by_cases h2 : x.length = y.length
    · rw [if_pos (decide_eq_true (show (x.length : Int) = (y.length : Int) by omega))]
      by_cases h3 : x = y
      · rw [if_pos (decide_eq_true h3)]
        symm
        apply decide_eq_false
        rw [h3]
        exact Nat.lt_irrefl _
      · rw [if_neg (show ¬ decide (x = y) = true from fun z => h3 (of_decide_eq_true z))]
        apply decide_eq_decide.mpr
        rw [tx, ty, h, List.cons_lt_cons_iff, ord]
        constructor
        · intro z
          rcases z with z | z
          · exact absurd z (Nat.lt_irrefl _)
          · exact .inr ⟨by omega, z.2⟩
        · intro z
          rcases z with z | z
          · omega
          · exact .inr ⟨rfl, z.2⟩
    · rw [if_neg (show ¬ decide ((x.length : Int) = (y.length : Int)) = true from fun z => h2 (by have := of_decide_eq_true z; omega))]
      apply decide_eq_decide.mpr
      rw [ord]
      constructor
      · intro z
        exact .inl (by omega)
      · intro z
        rcases z with z | z
        · omega
        · omega
  · rw [if_neg (show ¬ decide (capOf x = capOf y) = true from fun z => h (of_decide_eq_true z))]
    apply decide_eq_decide.mpr
    exact ⟨fun z => .inl z, fun z => z.elim id fun z => absurd z.1 h⟩
theorem le_agree {x y : Str} (hx : IsLet x) (hy : IsLet y) : dataLe false keyN x y = dataLe false keyL x y := by
  rw [dataLe_eq, dataLe_eq]
  show (!dataLt (keyN y) (keyN x)) = (!dataLt (keyL y) (keyL x))
  rw [keyN_lt, keyL_lt hy hx]
/-- the two sorts agree -/
theorem sort_agree {ss : List Str} (h : ∀ x ∈ ss, IsLet x) : ss.mergeSort (dataLe false keyL) = ss.mergeSort (dataLe false keyN) := by
  have z := List.map_mergeSort (r := dataLe false keyN) (s := dataLe false keyL) (f := id) (l := ss) fun a ha b hb => le_agree (h a ha) (h b hb)
  simpa using z.symm
end K87
-- D6
namespace K87
open PySem PySem.Spec PyProof.Rows L2 Evl KEv TL KDd KSq KDc KKey
section
variable {P : Program} {w : World} {K : PySem.W.Frag} {mg : Str → Option Value} {base : Heap}
/-! letter_key and in_order -/
theorem key_letter {f : Addr} {fd : FuncData} (D : DefAt K mg 18 "letter_key" ["letter"] f fd) (mi : mg "int" = none) : KeyFn P w K mg base f IsLet keyN := by
  obtain ⟨oc, od, kV, doc, pm, an, cdv, ct, osl, rfl, lk, hcd⟩ := D.F.ex
  refine key_cap_num (a := "letter") (cp := capOf) (num := fun x => (numOf x : Int)) lk hcd rfl rfl rfl rfl rfl rfl (by decide +kernel) (by decide) (fun u => rfl) mi fun x hx => ?_
  have h1 := hx.pos
  exact ⟨hx.cap.1, by omega, by omega, hx.num.1⟩
def spInOrder (K : PySem.W.Frag) : Sp := fun vs H Q _ => ∃ (a : Addr) (ss : List Str), vs = [.ref a] ∧ Sq K H a (ss.map V.str) ∧ (∀ x ∈ ss, IsLet x) ∧ ss.length ≤ 1000 ∧ RetL (((dd ss).mergeSort (PySem.W.dataLe false keyN)).map V.str) H Q
theorem scInOrder : FnScope ["letters", "found", "letter"] ["letters"] (defScope (topS 19)) := ⟨rfl, rfl, rfl, by decide +kernel, rfl, by decide +kernel, by decide +kernel⟩
theorem rcl_listD {p : Addr} {kvs : List (Key × V)} {H : Hp} (h : H p = some (.dK kvs)) : RCL rListD [.ref p] H (kvs.map fun kv => kV kv.1) := fun H1 e Q q => ⟨p, kvs, rfl, e _ _ h, fun l hl => q l _ hl (Ex.new hl) upd_same⟩
theorem at_str {ss : List Str} {i : Nat} {x : V} (h : (ss.map V.str)[i]? = some x) : i < ss.length ∧ x = .str (ss.getD i Str.empty) ∧ ss[i]? = some (ss.getD i Str.empty) := by
  rw [List.getElem?_map] at h
  cases e : ss[i]? with
  | none =>
    rw [e] at h
    cases h
  | some y =>
    rw [e] at h
    have hy : ss.getD i Str.empty = y := by
      rw [List.getD_eq_getElem?_getD, e]
      rfl
    rw [hy]
    exact ⟨(List.getElem?_eq_some_iff.mp e).1, (Option.some.inj h).symm, rfl⟩
theorem ok_in_order {f fk : Addr} {fd fdk : FuncData} (D : DefAt K mg 19 "in_order" ["letters"] f fd) (Dk : DefAt K mg 18 "letter_key" ["letter"] fk fdk) (mi : mg "int" = none) (ms : mg "sorted" = none) (ml : mg "list" = none) : FnOk P w K mg base CX0 4 f fd ["letters"] (spInOrder K) := by
  refine D.F.ok scInOrder (fun vs H Q E h => ?_) (fun cdv A outer s H vs Q E hr h => ?_)
  · obtain ⟨a, ss, rfl, _⟩ := h
    rfl
  · obtain ⟨a, ss, rfl, hS, hL, hz, k⟩ := h
    refine ⟨_, pss_cons (ps_setDc (i := 1) (own := [("letter", 2)]) (g := gName 2) (tt := tYes) rfl scInOrder.nd rfl rfl (sw_dict rfl rfl rfl (by decide +kernel)) (pi_seq (pv 0))
        (blkOk_by (own := [("letter", 2)]) (N := ["letters", "found", "letter"]) (sc := defScope (topS 19)) (by decide +kernel)) (fun _ _ _ _ _ => pg_name (i := 2) scInOrder.nd rfl (.inl rfl)) (fun _ _ _ _ _ => pts_nil) (fun _ _ _ _ _ => pv 2) (fun _ _ _ _ _ => pe_bl))
      (pss_one (ps_ret (pe_callBK (cr_sortKey (key_letter Dk mi) hr (fun x y _ _ => rfl) (fun x _ => ⟨_, _, rfl⟩) (fun x _ => show (keyN x).depth ≤ 8 from (by decide : (1 : Nat) ≤ 8)) ) (by rfl) ms (by decide +kernel)
        (pa_cons (pe_callTy (call_list_dK (by rfl)) (by rfl) ml (by decide +kernel) (pa_cons (pv 1) pa_nil)) pa_nil) (pk_cons (pe_glob (v := .ref fk) rfl Dk.g rfl) pk_nil)))), ?_⟩
    refine q_asgD (kvs := tkv (dd ss)) ?_ fun p H1 hp e1 h1 => ?_
    · have e := made_tkv (ss := ss) ss.length (Nat.le_refl _)
      rw [List.take_length] at e
      rw [← e]
      have e2 : ss.length = (ss.map V.str).length := (List.length_map _).symm
      rw [e2]
      exact ed_dcSq (K := K) (fun i => Sum.inr (ss.getD i Str.empty)) (fun _ => V.bl true) (ev_var rfl) hS (by rw [List.length_map]; omega) (fun x => rfl) (fun i x H1 _ _ => fun H2 e Q q => q H2 (Ex.refl H2)) (fun i x H1 _ hx => by rw [(at_str hx).2.1]; exact ev_var rfl) (fun i x H1 _ _ => ev_c)
    · refine el_cb (ea_cons (ev_var rfl) ea_nil) (rcl_listD h1) H1 (Ex.refl H1) _ fun q H2 hq e2 h2 => ?_
      rw [tkv_keys] at h2
      exact ⟨q, dd ss, rfl, rfl, sq_of h2, fun x hx => hL x (dd_mem.mp hx), fun r hr => k r _ (fresh_back (e1.trans e2) hr) ((e1.trans e2).trans (Ex.new hr)) upd_same⟩
end
end K87
-- KRow
/-! comprehensions over lists whose items stand for things of a kind α -/
namespace KNew
open PySem PySem.Spec PyProof.Rows L2 Evl KEv KSq KD TL
section
variable {α : Type} {K : PySem.W.Frag} {σ : L2.St} {H : Hp} {a : Addr} {xs : List V} {tl te : TE} {t : TT} {j : Nat} {vs : List Nat} {l : List α} {p : α → Bool} {f : α → V}
def pAt (l : List α) (p : α → Bool) (i : Nat) : Bool := match l[i]? with
  | some r => p r
  | none => false
def vAt (l : List α) (f : α → V) (i : Nat) : V := match l[i]? with
  | some r => f r
  | none => .non
theorem given_take : ∀ {k : Nat}, k ≤ l.length → given k (pAt l p) (vAt l f) = ((l.take k).filter p).map f
  | 0, _ => rfl
  | k + 1, h => by
    have e : l[k]? = some l[k] := List.getElem?_eq_getElem h
    have ih := given_take (k := k) (Nat.le_of_succ_le h)
    have e1 : pAt l p k = p l[k] := by
      unfold pAt
      rw [e]
    have e2 : vAt l f k = f l[k] := by
      unfold vAt
      rw [e]
    rw [List.take_add_one, e, List.filter_append, List.map_append, ← ih]
    cases b : p l[k] with
    | true =>
      rw [given_yes (e1.trans b), e2]
      simp [b]
    | false =>
      rw [given_no (e1.trans b)]
      simp [b]
theorem given_l {n : Nat} (h : n = l.length) : given n (pAt l p) (vAt l f) = (l.filter p).map f := by
  rw [given_take (Nat.le_of_eq h), h, List.take_length]
/-- over a list that stands -/
theorem el_lcF (l : List α) (p : α → Bool) (f : α → V) (h : Ev tl σ H (.ref a)) (hx : SqL K H a xs) (hl : xs.length = l.length) (hz : l.length ≤ 40000) (hw : ∀ x, wipe ((wipe σ vs).set j (some x)) vs = wipe σ vs)
    (ht : ∀ (i : Nat) (x : V) (r : α) H1, Ex H H1 → xs[i]? = some x → l[i]? = some r → EvT t ((wipe σ vs).set j (some x)) H1 (p r)) (he : ∀ (i : Nat) (x : V) (r : α) H1, Ex H H1 → xs[i]? = some x → l[i]? = some r → p r = true → Ev te ((wipe σ vs).set j (some x)) H1 (f r)) :
    EvL (tLc (iList K tl) (gName j) t te vs) σ H ((l.filter p).map f) := by
  rw [← given_l (p := p) (f := f) hl]
  refine el_lcL (pAt l p) (vAt l f) h hx (by omega) hw (fun i x H1 e hi => ?_) (fun i x H1 e hi hf => ?_)
  · obtain ⟨r, er⟩ : ∃ r, l[i]? = some r := ⟨_, List.getElem?_eq_getElem (by have := (List.getElem?_eq_some_iff.mp hi).1; omega)⟩
    have e1 : pAt l p i = p r := by
      unfold pAt
      rw [er]
    rw [e1]
    exact ht i x r H1 e hi er
  · obtain ⟨r, er⟩ : ∃ r, l[i]? = some r := ⟨_, List.getElem?_eq_getElem (by have := (List.getElem?_eq_some_iff.mp hi).1; omega)⟩
    have e1 : pAt l p i = p r := by
      unfold pAt
      rw [er]
    have e2 : vAt l f i = f r := by
      unfold vAt
      rw [er]
    rw [e2]
    exact he i x r H1 e hi er (e1.symm.trans hf)
theorem el_lcM (l : List α) (f : α → V) (h : Ev tl σ H (.ref a)) (hx : SqL K H a xs) (hl : xs.length = l.length) (hz : l.length ≤ 40000) (hw : ∀ x, wipe ((wipe σ vs).set j (some x)) vs = wipe σ vs)
    (he : ∀ (i : Nat) (x : V) (r : α) H1, Ex H H1 → xs[i]? = some x → l[i]? = some r → Ev te ((wipe σ vs).set j (some x)) H1 (f r)) : EvL (tLc (iList K tl) (gName j) tYes te vs) σ H (l.map f) := by
  have := el_lcF (K := K) (t := tYes) l (fun _ => true) f h hx hl hz hw (fun i x r H1 e hi er => fun H2 _ Q q => q H2 (Ex.refl H2)) (fun i x r H1 e hi er _ => he i x r H1 e hi er)
  rwa [List.filter_eq_self.mpr fun _ _ => rfl] at this
/-- over a new list -/
theorem el_lcNF (l : List α) (p : α → Bool) (f : α → V) (h : EvL tl σ H xs) (hl : xs.length = l.length) (hz : l.length ≤ 40000) (hw : ∀ x, wipe ((wipe σ vs).set j (some x)) vs = wipe σ vs)
    (ht : ∀ (i : Nat) (x : V) (r : α) H1, Ex H H1 → xs[i]? = some x → l[i]? = some r → EvT t ((wipe σ vs).set j (some x)) H1 (p r)) (he : ∀ (i : Nat) (x : V) (r : α) H1, Ex H H1 → xs[i]? = some x → l[i]? = some r → p r = true → Ev te ((wipe σ vs).set j (some x)) H1 (f r)) :
    EvL (tLc (iList K tl) (gName j) t te vs) σ H ((l.filter p).map f) := by
  rw [← given_l (p := p) (f := f) hl]
  refine el_lcNL (pAt l p) (vAt l f) h (by omega) hw (fun i x H1 e hi => ?_) (fun i x H1 e hi hf => ?_)
  · obtain ⟨r, er⟩ : ∃ r, l[i]? = some r := ⟨_, List.getElem?_eq_getElem (by have := (List.getElem?_eq_some_iff.mp hi).1; omega)⟩
    have e1 : pAt l p i = p r := by
      unfold pAt
      rw [er]
    rw [e1]
    exact ht i x r H1 e hi er
  · obtain ⟨r, er⟩ : ∃ r, l[i]? = some r := ⟨_, List.getElem?_eq_getElem (by have := (List.getElem?_eq_some_iff.mp hi).1; omega)⟩
    have e1 : pAt l p i = p r := by
      unfold pAt
      rw [er]
    have e2 : vAt l f i = f r := by
      unfold vAt
      rw [er]
    rw [e2]
    exact he i x r H1 e hi er (e1.symm.trans hf)
theorem el_lcNM (l : List α) (f : α → V) (h : EvL tl σ H xs) (hl : xs.length = l.length) (hz : l.length ≤ 40000) (hw : ∀ x, wipe ((wipe σ vs).set j (some x)) vs = wipe σ vs)
    (he : ∀ (i : Nat) (x : V) (r : α) H1, Ex H H1 → xs[i]? = some x → l[i]? = some r → Ev te ((wipe σ vs).set j (some x)) H1 (f r)) : EvL (tLc (iList K tl) (gName j) tYes te vs) σ H (l.map f) := by
  have := el_lcNF (K := K) (t := tYes) l (fun _ => true) f h hl hz hw (fun i x r H1 e hi er => fun H2 _ Q q => q H2 (Ex.refl H2)) (fun i x r H1 e hi er _ => he i x r H1 e hi er)
  rwa [List.filter_eq_self.mpr fun _ _ => rfl] at this
theorem cutV_take {xs : List V} {k : Nat} (h : k ≤ xs.length) : cutV xs none (some (k : Int)) = xs.take k := by
  unfold cutV
  rw [HT.sIx_nat, HT.sIx_none, List.drop_zero, Nat.sub_zero, Nat.min_eq_left h]
theorem cutV_drop {xs : List V} {k : Nat} : cutV xs (some (k : Int)) none = xs.drop k := by
  unfold cutV
  rw [HT.sIx_nat, HT.sIx_none]
  by_cases h : k ≤ xs.length
  · rw [Nat.min_eq_left h]
    exact List.take_of_length_le (by rw [List.length_drop]; exact Nat.le_refl _)
  · rw [Nat.min_eq_right (by omega), List.drop_of_length_le (Nat.le_refl _), List.drop_of_length_le (by omega)]
    simp
/-- x in [..] of texts, made on the way -/
theorem ev_inTx {ta tb : TE} {x : Str} {ws : List Str} (ha : Ev ta σ H (.str x)) (hb : EvL tb σ H (ws.map V.str)) : Ev (tOp (rIn K false) ta tb) σ H (.bl (decide (x ∈ ws))) := by
  have := ev_opL (r := rIn K false) (z := .bl (inV (.str x) (ws.map V.str))) ha hb fun p H1 h e => rv_isL (sq_of h) rfl (KDd.flat_txt ws)
  rwa [KDd.inV_txt] at this
theorem ev_niTx {ta tb : TE} {x : Str} {ws : List Str} (ha : Ev ta σ H (.str x)) (hb : EvL tb σ H (ws.map V.str)) : Ev (tOp (rIn K true) ta tb) σ H (.bl (!decide (x ∈ ws))) := by
  have := ev_opL (r := rIn K true) (z := .bl (!inV (.str x) (ws.map V.str))) ha hb fun p H1 h e => rv_niL (sq_of h) rfl (KDd.flat_txt ws)
  rwa [KDd.inV_txt] at this
theorem passF {P : Program} {w : World} {X : Cx} : Passes (L2N.CX P w) X E0 := fun _ _ _ _ _ _ _ h => by
  obtain ⟨_, _, _, _, _, _, _, _, _, _, _, _, z⟩ := h
  exact z.elim
end
end KNew
namespace KNew
open PySem PySem.Spec PyProof.Rows L2 Evl KEv KSq KD TL
section
variable {α : Type} {K : PySem.W.Frag} {σ : L2.St} {H : Hp} {te : TE} {ta : TA} {j : Nat} {vs : List Nat} {f : α → V}
/-- over range(n), n items -/
theorem el_lcRM (l : List α) (f : α → V) (h : EvA ta σ H [.int (l.length : Int)]) (hz : l.length ≤ 40000) (hw : ∀ x, wipe ((wipe σ vs).set j (some x)) vs = wipe σ vs)
    (he : ∀ (i : Nat) (r : α) H1, Ex H H1 → l[i]? = some r → Ev te ((wipe σ vs).set j (some (.int (i : Int)))) H1 (f r)) : EvL (tLc (iRng1 ta) (gName j) tYes te vs) σ H (l.map f) := by
  have key : EvL (tLc (iRng1 ta) (gName j) tYes te vs) σ H (given ((l.length : Int)).toNat (pAt l fun _ => true) (vAt l f)) := by
    refine el_lcR1 (pAt l fun _ => true) (vAt l f) h ⟨by omega, by omega⟩ hw (fun i H1 e hi => ?_) (fun i H1 e hi hf => ?_)
    · obtain ⟨r, er⟩ : ∃ r, l[i]? = some r := ⟨_, List.getElem?_eq_getElem (by omega)⟩
      have e1 : pAt l (fun _ => true) i = true := by
        unfold pAt
        rw [er]
      rw [e1]
      exact fun H2 _ Q q => q H2 (Ex.refl H2)
    · obtain ⟨r, er⟩ : ∃ r, l[i]? = some r := ⟨_, List.getElem?_eq_getElem (by omega)⟩
      have e2 : vAt l f i = f r := by
        unfold vAt
        rw [er]
      rw [e2]
      exact he i r H1 e er
  rw [given_l (by simp), List.filter_eq_self.mpr fun _ _ => rfl] at key
  exact key
end
end KNew
-- KGenF
/-! defs that draw and tell what is new -/
namespace KD
open PySem PySem.Spec PyProof.Rows L2 Evl KEv KSq KNew
def spGenF (A : List V → Hp → Prop) (R : List V → Hp → V → Hp → Prop) : Sp := fun vs H Q _ => ∃ (d : Addr) (rest : List V), vs = .ref d :: rest ∧ Dr H d ∧ A rest (hide H d) ∧ ∀ v B' H', Ex (hide H d) B' → Sd B' d H' → R rest (hide H d) v B' → Q v H'
section
variable {K : PySem.W.Frag} {σ : L2.St} {B H : Hp} {d : Addr} {te td : TE} {ta : TA} {tt : TT} {R R' : V → Hp → Prop} {E : XK} {D : Ends} {tz tu tw : TS} {j : Nat}
theorem eg_callF {A : List V → Hp → Prop} {Rc : List V → Hp → V → Hp → Prop} {Rs : List V → Hp → Prop} (h : EvGA ta σ B d Rs) (ha : ∀ us B1 H1, Ex B B1 → Rs us B1 → Ex B1 H1 → ∃ rest, us = .ref d :: rest ∧ A rest H1) (hr : ∀ rest B1 Bh B2 v, Ex B B1 → Rs (.ref d :: rest) B1 → Ex B1 Bh → Ex Bh B2 → Rc rest Bh v B2 → R v B2) :
    EvG (tCall (spGenF A Rc) [] E ta) σ B d R := fun H s Q q => h H s _ fun us B1 H1 e1 s1 r1 => by
  obtain ⟨rest, eu, hA⟩ := ha us B1 (hide H1 d) e1 r1 s1.below
  subst eu
  exact ⟨d, rest, List.append_nil _, s1.dr, hA, fun v B2 H2 e2 s2 r2 => q v B2 H2 ((e1.trans s1.below).trans e2) s2 (hr rest B1 (hide H1 d) B2 v e1 r1 s1.below e2 r2)⟩
theorem eg_callP {A : List V → Hp → Prop} {Rc : List V → Hp → V → Hp → Prop} {rest : List V} (h : EvA ta σ B (.ref d :: rest)) (ha : ∀ H1, Ex B H1 → A rest H1) : EvG (tCall (spGenF A Rc) [] E ta) σ B d fun v B2 => ∃ Bh, Ex B Bh ∧ Ex Bh B2 ∧ Rc rest Bh v B2 :=
  eg_callF (Rs := fun us B' => us = .ref d :: rest ∧ B' = B) (ega_lift h) (fun us B1 H1 _ h e => ⟨rest, h.1, ha H1 (h.2 ▸ e)⟩) fun rest' B1 Bh B2 v _ h e1 e2 hc => by
    obtain rfl : rest' = rest := (List.cons.inj h.1).2
    exact ⟨Bh, h.2 ▸ e1, e2, hc⟩
/-- f(draws, n), n drawn -/
theorem eg_callF1 {A : List V → Hp → Prop} {Rc : List V → Hp → V → Hp → Prop} {R1 : V → Hp → Prop} (hd : Ev td σ B (.ref d)) (h : EvG te σ B d R1) (ha : ∀ v B1 H1, Ex B B1 → R1 v B1 → Ex B1 H1 → A [v] H1) : EvG (tCall (spGenF A Rc) [] E (tCons td (tCons te tNil))) σ B d fun u B2 => ∃ v B1 Bh, Ex B B1 ∧ R1 v B1 ∧ Ex B1 Bh ∧ Ex Bh B2 ∧ Rc [v] Bh u B2 :=
  eg_callF (Rs := fun us B' => ∃ v, us = [.ref d, v] ∧ R1 v B') (ega_sd (ega_consV hd (ega_one h)) fun us B' _ h => by
      obtain ⟨r, rfl, v, rfl, h⟩ := h
      exact ⟨v, rfl, h⟩) (fun us B1 H1 e1 h e2 => by
      obtain ⟨v, rfl, h⟩ := h
      exact ⟨[v], rfl, ha v B1 H1 e1 h e2⟩) fun rest B1 Bh B2 u e1 h e2 e3 hc => by
      obtain ⟨v, ev, h⟩ := h
      obtain rfl : rest = [v] := (List.cons.inj ev).2
      exact ⟨v, B1, Bh, e1, h, e2, e3, hc⟩
/-- a pure value among what is drawn -/
theorem EvG.pure {v : V} (h : Ev te σ B v) (hr : R v B) : EvG te σ B d R := fun H s Q q => h H s.ex Q fun H2 e2 => q v B H2 (Ex.refl B) (s.mono e2) hr
/-- what is made anew -/
theorem g_asgN {i : Nat} (h : EvN te σ B R) (s : Sd B d H) (k : ∀ v B' H', Ex B B' → Sd B' d H' → R v B' → D.nx (σ.set i (some v)) H') : tAsg te (gName i) D σ H := g_asg (eg_new h) s k
theorem gq_asgN {i : Nat} (h : EvN te σ B R) (s : Sd B d H) (k : ∀ v B' H', Ex B B' → Sd B' d H' → R v B' → tz D (σ.set i (some v)) H') : tSeq (tAsg te (gName i)) tz D σ H := gq_asg (eg_new h) s k
/-- a test that draws nothing -/
theorem gq_when {b : Bool} (h : EvT tt σ B b) (s : Sd B d H) (h1 : b = true → ∀ H1, Sd B d H1 → tu { D with nx := tz D } σ H1) (h2 : b = false → ∀ H1, Sd B d H1 → tz D σ H1) : tSeq (tIfS tt tu tNext) tz D σ H :=
  (h H s.ex) _ fun H1 e1 => by
    cases b with
    | true => exact h1 rfl H1 (s.mono e1)
    | false => exact h2 rfl H1 (s.mono e1)
theorem g_ifP {b : Bool} (h : EvT tt σ B b) (s : Sd B d H) (h1 : b = true → ∀ H1, Sd B d H1 → tu D σ H1) (h2 : b = false → ∀ H1, Sd B d H1 → tw D σ H1) : tIfS tt tu tw D σ H :=
  (h H s.ex) _ fun H1 e1 => by
    cases b with
    | true => exact h1 rfl H1 (s.mono e1)
    | false => exact h2 rfl H1 (s.mono e1)
end
end KD
namespace KD
open PySem PySem.Spec PyProof.Rows L2 Evl KEv KSq KNew
section
variable {K : PySem.W.Frag} {σ : L2.St} {B H : Hp} {d : Addr} {te ta ti : TE} {tr : TA} {R R' : V → Hp → Prop} {D : Ends} {tz : TS} {j : Nat} {vs : List Nat} {g : TG}
/-- a comprehension over range(n), every turn gives something new -/
theorem en_lcRF {n : Nat} (Rl : Nat → V → Hp → Prop) (hm : ∀ i y G G', Rl i y G → Ex G G' → Rl i y G') (h : EvA tr σ H [.int (n : Int)]) (hz : n ≤ 40000)
    (hs : ∀ i G H1, Ex H G → Ex G H1 → i < n → ∀ Q : VK, (∀ y G' H2, Nw G H1 G' H2 → Rl i y G' → Q y H2) → g (.int (i : Int)) (wipe σ vs) H1 fun σ2 H2 => wipe σ2 vs = wipe σ vs ∧ te σ2 H2 Q) :
    EvN (tLc (iRng1 tr) g tYes te vs) σ H (FrL H fun ys G => ys.length = n ∧ ∀ i y, ys[i]? = some y → Rl i y G) := by
  intro H0 e0 Q q
  refine h H0 e0 _ fun H1 e1 => ⟨(n : Int), rfl, by omega, by omega, fun L hD => ?_⟩
  refine lc_range (lo := 0) (n := ((n : Int) - 0).toNat) (fun i H' => ∃ G acc, Nw H H1 G H' ∧ G L = none ∧ H' L = some (.lst acc) ∧ acc.length = i ∧ ∀ m y, acc[m]? = some y → Rl m y G)
    ⟨H, [], (Nw.refl (e0.trans e1)).go (Ex.new hD), fresh_back (e0.trans e1) hD, upd_same, rfl, fun m y hj => by simp at hj⟩ (fun i H' hi p => ?_) (fun H' p => ?_)
  · obtain ⟨G, acc, nw, gD, hacc, hl, hr⟩ := p
    have ne : H' L ≠ none := by rw [hacc]; exact fun z => nomatch z
    have e0' : (0 : Int) + (i : Int) = (i : Int) := Int.zero_add _
    rw [e0']
    refine hs i G H' nw.up nw.st (by omega) _ fun y G' H2 n' r => ?_
    have n2 := nw.trans n'
    have g2 : G' L = none := n'.fr L gD ne
    refine ⟨acc, n'.kp _ _ hacc, sz_lt (by omega), G', acc ++ [y], ⟨n2.up, n2.st.mut g2, n2.kp.mut hD, n2.fr⟩, g2, upd_same, by rw [List.length_append, hl]; rfl, fun m z hj => ?_⟩
    by_cases hji : m < acc.length
    · rw [List.getElem?_append_left hji] at hj
      exact hm m z G G' (hr m z hj) n'.up
    · have := (List.getElem?_eq_some_iff.mp hj).1
      rw [List.length_append, List.length_singleton] at this
      have ej : m = acc.length := by omega
      rw [ej, List.getElem?_append_right (Nat.le_refl _)] at hj
      simp at hj
      rw [ej, hl, ← hj]
      exact r
  · obtain ⟨G, acc, nw, gD, hacc, hl, hr⟩ := p
    refine q (.ref L) (upd G L (.lst acc)) H' ⟨nw.up.trans (Ex.new gD), fun b u z => ?_, e1.trans nw.kp, fun b z z1 => ?_⟩ ⟨L, acc, rfl, fresh_back (e0.trans e1) hD, upd_same, by rw [hl]; simp, fun m y hj => hm m y G _ (hr m y hj) (Ex.new gD)⟩
    · by_cases w : b = L
      · rw [w, upd_same] at z
        rw [w, hacc, z]
      · rw [upd_ne w] at z
        exact nw.st _ _ z
    · have w : b ≠ L := fun w => z1 (by rw [w]; exact fresh_back e1 hD)
      rw [upd_ne w]
      exact nw.fr b z (by
        cases y : H0 b with
        | none => exact absurd y z1
        | some o => rw [e1 _ _ y]; exact fun z => nomatch z)
/-- [e for k in range(n)], n and each e drawn, n between two bounds -/
theorem eg_lcR2 {n1 n0 : Nat} {Kp : V → Prop} (h : EvGA tr σ B d fun us _ => ∃ n : Nat, us = [.int (n : Int)] ∧ n1 ≤ n ∧ n ≤ n0) (hn0 : n0 ≤ 40000) (hw : ∀ x, wipe ((wipe σ vs).set j (some x)) vs = wipe σ vs)
    (he : ∀ (i : Nat) B1, Ex B B1 → EvG te ((wipe σ vs).set j (some (.int (i : Int)))) B1 d fun v _ => Kp v) :
    EvG (tLc (iRng1 tr) (gName j) tYes te vs) σ B d fun u B' => ∃ p xs, u = .ref p ∧ B p = none ∧ B' p = some (.lst xs) ∧ n1 ≤ xs.length ∧ xs.length ≤ n0 ∧ ∀ x ∈ xs, Kp x := fun H s Q q =>
  h H s _ fun us B1 H1 e1 s1 r1 => by
    obtain ⟨n, rfl, hn1, hn⟩ := r1
    refine ⟨(n : Int), rfl, by omega, by omega, fun L hL => ?_⟩
    have nb : B1 L = none := fresh_back s1.ex hL
    refine lc_range (lo := 0) (n := ((n : Int) - 0).toNat) (fun i H' => ∃ B2 acc, Ex B1 B2 ∧ Sd B2 d H' ∧ B2 L = some (.lst acc) ∧ acc.length = i ∧ ∀ x ∈ acc, Kp x) ⟨upd B1 L (.lst []), [], Ex.new nb, (s1.mono (Ex.new hL)).known (s1.ne hL) upd_same, upd_same, rfl, fun x hx => absurd hx (by simp)⟩ (fun i H2 hi p => ?_) (fun H2 p => ?_)
    · obtain ⟨B2, acc, e2, s2, h2, hl, hx⟩ := p
      have e0 : (0 : Int) + (i : Int) = (i : Int) := Int.zero_add _
      rw [e0]
      refine ⟨hw _, ?_⟩
      show (fun b H3 => _) true H2
      simp only [if_true]
      refine he i B2 (e1.trans e2) H2 s2 _ fun v B3 H3 e3 s3 r3 => ?_
      have h3 : B3 L = some (.lst acc) := e3 _ _ h2
      refine ⟨acc, s3.ex _ _ h3, sz_lt (by omega), upd B3 L (.lst (acc ++ [v])), acc ++ [v], (e2.trans e3).mut nb, s3.change h3, upd_same, by rw [List.length_append, hl]; rfl, fun x hx2 => ?_⟩
      rcases List.mem_append.mp hx2 with z | z
      · exact hx x z
      · rw [List.mem_singleton.mp z]
        exact r3
    · obtain ⟨B2, acc, e2, s2, h2, hl, hx⟩ := p
      exact q (.ref L) B2 H2 (e1.trans e2) s2 ⟨L, acc, rfl, fresh_back e1 nb, h2, by omega, by omega, hx⟩
/-- xs[i] = e, both drawn -/
theorem g_setG {l : Addr} {xs : List V} {Pv : V → Prop} (h : EvG te σ B d fun v _ => Pv v) (ha : ∀ B1, Ev ta σ B1 (.ref l)) (hi : ∀ B1, Ex B B1 → EvG ti σ B1 d fun v _ => ∃ m : Nat, v = .int (m : Int) ∧ m < xs.length) (hl : B l = some (.lst xs)) (s : Sd B d H)
    (k : ∀ v m B1 H1, Ex B B1 → Pv v → m < xs.length → Sd (upd B1 l (.lst (xs.set m v))) d H1 → D.nx σ H1) : tAsg te (gSub ta ti rSetL) D σ H :=
  h H s _ fun v B1 H1 e1 s1 r1 => ha B1 H1 s1.ex _ fun H2 e2 => hi B1 e1 H2 (s1.mono e2) _ fun w B2 H3 e3 s3 r3 => by
    obtain ⟨m, rfl, hm⟩ := r3
    have h3 := e3 _ _ (e1 _ _ hl)
    exact ⟨l, xs, (m : Int), m, rfl, rfl, s3.ex _ _ h3, ixN_nat hm, k v m B2 _ (e1.trans e3) r1 hm (s3.change h3)⟩
end
end KD
-- KGenL
/-! a loop over a list that is read while the turns draw -/
namespace KD
open PySem PySem.Spec PyProof.Rows L2 Evl KEv KNew KSq
section
variable {K : PySem.W.Frag} {σ : L2.St} {B H : Hp} {d : Addr} {tl : TE} {tu tz : TS} {D : Ends} {j : Nat}
theorem g_list {Rl : List V → Hp → Prop} {ok : L2.St → Prop} (h : EvG tl σ B d fun v B1 => ∃ p us, v = .ref p ∧ B1 p = some (.lst us) ∧ Rl us B1) (s : Sd B d H) (h0 : ok σ)
    (hs : ∀ (us : List V) (B1 B2 H' : Hp) (i : Nat) (x : V) (σ' : L2.St), Ex B B1 → Rl us B1 → Ex B1 B2 → Sd B2 d H' → us[i]? = some x → ok σ' → tu { D with nx := fun σ3 H3 => ok σ3 ∧ ∃ B3, Ex B1 B3 ∧ Sd B3 d H3, ct := fun σ3 H3 => ok σ3 ∧ ∃ B3, Ex B1 B3 ∧ Sd B3 d H3, bk := D.nx } (σ'.set j (some x)) H')
    (hd : ∀ B1 H' σ', Ex B B1 → Sd B1 d H' → ok σ' → D.nx σ' H') : tFor (iList K tl) (gName j) tu D σ H :=
  h H s _ fun v B1 H1 e1 s1 r => by
    obtain ⟨p, us, rfl, hp, hr⟩ := r
    exact ⟨p, rfl, ⟨us, sq_of (s1.ex _ _ hp)⟩, for_it walk_list (fun _ σ3 H3 => ok σ3 ∧ ∃ B3, Ex B1 B3 ∧ Sd B3 d H3) ⟨h0, B1, Ex.refl B1, s1⟩ (fun i σ' H' _ z => by
      obtain ⟨_, B3, e3, s3⟩ := z
      exact sq_of (s3.ex _ _ (e3 _ _ hp))) (fun i x σ' H2 H3 _ z y => by
      obtain ⟨rfl, hx⟩ := y
      obtain ⟨hok, B3, e3, s3⟩ := z
      exact hs us B1 B3 _ i x σ' e1 hr e3 s3 hx hok) fun σ' H' z => by
      obtain ⟨hok, B3, e3, s3⟩ := z
      exact hd B3 H' σ' (e1.trans e3) s3 hok⟩
theorem gq_list {Rl : List V → Hp → Prop} {ok : L2.St → Prop} (h : EvG tl σ B d fun v B1 => ∃ p us, v = .ref p ∧ B1 p = some (.lst us) ∧ Rl us B1) (s : Sd B d H) (h0 : ok σ)
    (hs : ∀ (us : List V) (B1 B2 H' : Hp) (i : Nat) (x : V) (σ' : L2.St), Ex B B1 → Rl us B1 → Ex B1 B2 → Sd B2 d H' → us[i]? = some x → ok σ' → tu { D with nx := fun σ3 H3 => ok σ3 ∧ ∃ B3, Ex B1 B3 ∧ Sd B3 d H3, ct := fun σ3 H3 => ok σ3 ∧ ∃ B3, Ex B1 B3 ∧ Sd B3 d H3, bk := tz D } (σ'.set j (some x)) H')
    (hd : ∀ B1 H' σ', Ex B B1 → Sd B1 d H' → ok σ' → tz D σ' H') : tSeq (tFor (iList K tl) (gName j) tu) tz D σ H :=
  g_list (D := { D with nx := tz D }) h s h0 hs hd
end
end KD
-- KLtD
/-! a < b of tuples of texts and numbers -/
namespace KSq
open PySem PySem.Spec PyProof.Rows L2 Evl KEv
def rLtD (K : PySem.W.Frag) : R2 := fun x y H Q => ∃ da db, Dp K H x da ∧ Dp K H y db ∧ PySem.W.alike da db = true ∧ da ≠ .none ∧ da.depth ≤ 60 ∧ Q (.bl (PySem.W.dataLt da db)) H
theorem op_ltD {X : Cx} (hu : X.A.units + 64 < cLine) : OpR X (compareOp .Lt) (rLtD X.K) := by
  intro pins s σ H x y v u Q I rx ry h
  obtain ⟨da, db, h1, h2, h3, h4, h5, q⟩ := h
  obtain ⟨as, r1⟩ := Dp.reads I da x v h1 rx
  obtain ⟨bs, r2⟩ := Dp.reads I db y u h2 ry
  exact PySem.W.lt_data r1 r2 h3 h4 (by have := Nat.min_le_left da.depth db.depth; omega) ⟨.bl _, H, I, rfl, q⟩
section
variable {K : PySem.W.Frag} {σ : L2.St} {H : Hp} {ta tb : TE} {r : R2} {z : V} {xs ys : List V}
theorem rv_ltD {x y : V} {da db : PyData} (hx : ∀ H1, Ex H H1 → Dp K H1 x da) (hy : ∀ H1, Ex H H1 → Dp K H1 y db) (h3 : PySem.W.alike da db = true) (h4 : da ≠ .none) (h5 : da.depth ≤ 60) : RV (rLtD K) x y H (.bl (PySem.W.dataLt da db)) := fun H1 e Q q => ⟨da, db, hx H1 e, hy H1 e, h3, h4, h5, q H1 (Ex.refl H1)⟩
/-- of two new tuples -/
theorem ev_opUU (h1 : EvU ta σ H xs) (h2 : EvU tb σ H ys) (hr : ∀ p q H1, Ex H H1 → H1 p = some (.tup xs) → H1 q = some (.tup ys) → RV r (.ref p) (.ref q) H1 z) : Ev (tOp r ta tb) σ H z := fun H1 e Q q =>
  h1 H1 e _ fun p H2 _ e2 hp => h2 H2 (e.trans e2) _ fun p2 H3 _ e3 hp2 => hr p p2 H3 ((e.trans e2).trans e3) (e3 _ _ hp) hp2 H3 (Ex.refl H3) Q fun H4 e4 => q H4 ((e2.trans e3).trans e4)
end
end KSq
-- KTry
/-! within a try: an object made, a method called; a method called with a keyword -/
namespace KTry
open PySem PySem.Spec PyProof.Rows L2 KNew
theorem takes0N {X : Cx} : L2N.Takes X (fun _ _ _ _ => False) := fun _ _ x => by
  obtain ⟨_, _, _, _, _, _, _, _, _, _, _, _, _, _, _, _, z⟩ := x
  exact z.elim
section
variable {X : Cx} {CX : CXT} {k : Nat} {f C : Addr} {fd : FuncData} {ps ks : List Str} {sp : Sp} {dvs : List V} {ds : List Value} {E : L2.St → XK} {x m : Str} {p pos apos : Pos} {e o : Expr} {es : List Expr} {ta : TE} {t tk : TA} {kws : List Keyword} {n : Nat} {g : List Value → List Value → List Value} {gV : List V → List V → List V}
def tMakeS (C : Addr) (sp : Sp) (dvs : List V) (E : L2.St → XK) (t : TA) : TE := fun σ H Q => t σ H fun vs H1 => ∀ x dx, H1 x = none → H1 dx = none → dx ≠ x →
  sp (.ref x :: (vs ++ dvs)) (upd (upd H1 dx (.own x)) x (.ins C dx [])) (fun v H2 => v = .non ∧ Q (.ref x) H2) (E σ)
theorem run_makeS {pins : List (Addr × Obj)} {σ : L2.St} {H : Hp} {s : Shared} {Q : VK} {us : List Value} {vs : List V} (M : Mk X.K C f) (F : FnOk X.prog X.w X.K X.mg X.base CX k f fd ps sp) (hr : Room (k + 1) X.A) (hb : Binds X.K fd ps ds) (hd : Vals dvs ds)
    (hx : PassesAt CX X σ (E σ)) (I : L2.Inv X pins σ H s) (r : Vals vs us)
    (h : ∀ x dx, H x = none → H dx = none → dx ≠ x → sp (.ref x :: (vs ++ dvs)) (upd (upd H dx (.own x)) x (.ins C dx [])) (fun v H2 => v = .non ∧ Q (.ref x) H2) (E σ)) : wpAny (model X.prog X.w) X.A (call (.ref C) us) (EP X pins σ Q) X.xe s := by
  have q0 := h (s.heap.objs.size + 1) s.heap.objs.size (I.hok.fresh (Nat.le_succ _)) (I.hok.fresh (Nat.le_refl _)) (Nat.ne_of_lt (Nat.lt_succ_self _))
  have J := Inv.made (C := C) I
  have r2 : Vals (V.ref (s.heap.objs.size + 1) :: (vs ++ dvs)) (Value.ref (s.heap.objs.size + 1) :: (us ++ ds)) := .cons rfl (r.append hd)
  have hl : (Value.ref (s.heap.objs.size + 1) :: us ++ ds).length = ps.length := by
    have z := r2.length
    rw [F.len _ _ _ _ q0] at z
    exact z.symm
  have hcode := fun (RR : Result → Shared → Prop) hm => codeAny_mono (R' := RR) (F.run _ X.stack _ _ ⟨Value.ref (s.heap.objs.size + 1) :: us, []⟩ (Value.ref (s.heap.objs.size + 1) :: (us ++ ds)) _ _ (E σ) (hr.make C us []) (J.env0.make C us []) (hb _ (Value.ref (s.heap.objs.size + 1) :: us) J.kIn hl) r2 q0) hm
  refine wpAny_call (make_map (f := f) I.kIn M.makes M.init (beq_iff_eq.mp M.fn) (hcode _ fun rs s' hq' => ?_))
  cases rs with
  | error e => exact hx pins _ _ e s' J hq'
  | ok fl =>
    cases fl with
    | ret u =>
      obtain ⟨v, H', I3, rv, ev, q3⟩ := J.after hq'
      subst ev
      exact ⟨rv, ⟨V.ref (s.heap.objs.size + 1), H', I3, rfl, q3⟩⟩
    | next => exact False.elim hq'
    | brk => exact False.elim hq'
    | cont => exact False.elim hq'
theorem pe_makeS (M : Mk X.K C f) (F : FnOk X.prog X.w X.K X.mg X.base CX k f fd ps sp) (hr : Room (k + 1) X.A) (hg : Gl X x) (hm : X.mg x = some (.ref C)) (hb : Binds X.K fd ps ds) (hd : Vals dvs ds) (hx : ∀ σ, PassesAt CX X σ (E σ)) (ha : PA X (e :: es) t)
    (hdb : (x == ("__debug__" : Str)) = false := by decide) (he : starEach (e :: es) X.env = (false, eval e X.env) :: starEach es X.env := by rfl) (hpl : (backTo pos (starEach es X.env)).any (·.1) = false := by rfl) : PE X (.Call (.Name x p) (e :: es) [] pos) (tMakeS C sp dvs E t) := by
  refine ⟨fun pins s σ H Q I h => ?_⟩
  refine wpAny_Call_Name_kw (ld_glob I hg hm ?_ hdb)
  exact PySem.W.callWith_K (h₀ := X.base) I.ok.mod.kin M.kp (thn (ha.run pos pins s σ H _ I h) fun us s1 ⟨vs, H1, J, r, q⟩ => ⟨J.kIn, run_makeS M F hr hb hd (hx σ) J r q⟩) he hpl
def tMethS (C : Addr) (m : Str) (sp : Sp) (dvs : List V) (E : L2.St → XK) (ta : TE) (t : TA) : TE := fun σ H Q => ta σ H fun x H1 => ∃ a dx fs, x = .ref a ∧ H1 a = some (.ins C dx fs) ∧ fs.lookup m = none ∧
  t σ H1 fun vs H2 => sp (x :: (vs ++ dvs)) H2 Q (E σ)
theorem pe_methS {pl : Sem Bool} (he : PE X o ta) (c : Cls X.K C) (hm : Meth X.K C m f) (F : FnOk X.prog X.w X.K X.mg X.base CX k f fd ps sp) (hr : Room k X.A) (hb : Binds X.K fd ps ds) (hd : Vals dvs ds) (hx : ∀ σ, PassesAt CX X σ (E σ)) (ha : PA X (e :: es) t)
    (hst : starEach (e :: es) X.env = (false, eval e X.env) :: starEach es X.env := by rfl) (hpl : (backTo pos (starEach es X.env)).any (·.1) = false := by rfl)
    (ht : eval (.Call (.Attribute o m apos) (e :: es) [] pos) X.env = (do
      let ov ← eval o X.env
      standAt apos.atName
      let (fu, first) ← holding [ov] (getMethod ov m pl)
      callWith pos fu first (backTo pos (starEach (e :: es) X.env)) (backToKw pos (keywordEach [] X.env))) := by rfl) :
    PE X (.Call (.Attribute o m apos) (e :: es) [] pos) (tMethS C m sp dvs E ta t) := by
  refine ⟨fun pins s σ H Q I h => ?_⟩
  refine PySem.W.methodCall_KW (pl := pl) (thn (he.run pins s σ H _ I h) fun u s1 ⟨y, H1, J, ry, a, dx, fs, ey, ea, l, q⟩ => ?_) ht
  subst ey
  obtain rfl : u = Value.ref a := ry
  refine getmeth_ok J ea c hm l ?_
  exact PySem.W.callWith_K (first := [.ref a]) (h₀ := X.base) I.ok.mod.kin hm.kp (thn (ha.run pos pins s1 σ H1 _ J q) fun us s2 ⟨vs, H2, J2, r, q2⟩ => ⟨J2.kIn, run_fnSD (us := .ref a :: us) (vs := .ref a :: vs) F hr hb hd (hx σ) J2 (.cons rfl r) q2⟩) hst hpl
/-- o.m(e, .., k = v) -/
def tMethKw (C : Addr) (m : Str) (nn mm : Nat) (sp : Sp) (gV : List V → List V → List V) (E : XK) (ta : TE) (t tk : TA) : TE := fun σ H Q => ta σ H fun x H1 => ∃ a dx fs, x = .ref a ∧ H1 a = some (.ins C dx fs) ∧ fs.lookup m = none ∧
  t σ H1 fun vs H2 => tk σ H2 fun zs H3 => (x :: vs).length = nn ∧ zs.length = mm ∧ sp (gV (x :: vs) zs) H3 Q E
theorem pe_methKw {pl : Sem Bool} {E : XK} (he : PE X o ta) (c : Cls X.K C) (hm : Meth X.K C m f) (F : FnOk X.prog X.w X.K X.mg X.base CX k f fd ps sp) (hr : Room k X.A) (hb : KBn X.K fd ps n ks g gV) (hx : Passes CX X E) (ha : PA X (e :: es) t) (hkw : PK X kws tk)
    (hall : (backToKw pos (keywordEach kws X.env)).all (·.1.isSome) = true := by rfl) (hks : (backToKw pos (keywordEach kws X.env)).filterMap (·.1) = ks := by rfl) (hst : starEach (e :: es) X.env = (false, eval e X.env) :: starEach es X.env := by rfl)
    (hpl : ((backTo pos (starEach (e :: es) X.env)).any (·.1) || (backToKw pos (keywordEach kws X.env)).any (·.1.isNone)) = false := by rfl)
    (ht : eval (.Call (.Attribute o m apos) (e :: es) kws pos) X.env = (do
      let ov ← eval o X.env
      standAt apos.atName
      let (fu, first) ← holding [ov] (getMethod ov m pl)
      callWith pos fu first (backTo pos (starEach (e :: es) X.env)) (backToKw pos (keywordEach kws X.env))) := by rfl) :
    PE X (.Call (.Attribute o m apos) (e :: es) kws pos) (tMethKw C m n ks.length sp gV E ta t tk) := by
  refine ⟨fun pins s σ H Q I h => ?_⟩
  refine PySem.W.methodCall_KW (pl := pl) (thn (he.run pins s σ H _ I h) fun u s1 ⟨y, H1, J, ry, a, dx, fs, ey, ea, l, q⟩ => ?_) ht
  subst ey
  obtain rfl : u = Value.ref a := ry
  refine getmeth_ok J ea c hm l ?_
  refine PySem.W.callWith_KW (first := [.ref a]) (h₀ := X.base) I.ok.mod.kin hm.kp hall (thn (ha.run pos pins s1 σ H1 _ J q) fun us s2 ⟨vs, H2, J2, r, q2⟩ => ?_) hpl hst
  refine thn (hkw.run pos pins s2 σ H2 _ J2 q2) fun ws s3 ⟨zs, H3, J3, rz, l1, l2, q3⟩ => ⟨J3.kIn, ?_⟩
  rw [hks]
  exact run_fnN (us := .ref a :: us) (vs := .ref a :: vs) F hr hb hx J3 (.cons rfl r) rz l1 l2 q3
end
end KTry
-- J1
namespace K87
open PySem PySem.Spec PyProof.Rows L2 Evl KEv TL KDd KSq KSame KTxt KNew KD
/-! joined -/
structure GenAt (P : Program) (w : World) (K : PySem.W.Frag) (mg : Str → Option Value) (base : Heap) (n : Nat) (x : Str) (ps : List Str) (sp : Sp) (f : Addr) (fd : FuncData) : Prop where
  F : FnOk P w K mg base CX0 n f fd ps sp
  g : mg x = some (.ref f)
  kp : PySem.W.keepIn K (.ref f) = true
  b : Binds K fd ps []
theorem eqv_strs : ∀ a b : List Str, PyData.eqvAll (a.map PyData.str) (b.map PyData.str) = decide (a = b)
  | [], [] => by simp [PyData.eqvAll]
  | [], _ :: _ => by simp [PyData.eqvAll]
  | _ :: _, [] => by simp [PyData.eqvAll]
  | x :: a, y :: b => by
    have h := eqv_strs a b
    have h1 : PyData.eqv (.str x) (.str y) = decide (x = y) := by
      simp only [PyData.eqv]
      by_cases e : x = y <;> simp [e]
    rw [List.map_cons, List.map_cons]
    simp only [PyData.eqvAll]
    rw [h1, h]
    by_cases e1 : x = y <;> by_cases e2 : a = b <;> simp [e1, e2]
theorem let_ok {x : Str} (h : IsLet x) : PyData.strOk x = true := by
  obtain ⟨c, n, hc, ht, _⟩ := h
  unfold PyData.strOk
  rw [← Array.all_toList, List.all_eq_true]
  intro z hz
  have hz : z ∈ tl x := hz
  rw [ht] at hz
  have a1 : ∀ c ∈ tl capitals, c < 0x110000 := by decide
  refine decide_eq_true ?_
  rcases List.mem_cons.mp hz with rfl | hz
  · exact a1 _ hc
  · have := numL_digits n z hz
    omega
theorem lay_strs : ∀ ss : List Str, (∀ x ∈ ss, PyData.strOk x = true) → PyData.canLayAll0 (ss.map PyData.str) = true
  | [], _ => rfl
  | x :: ss, h => by
    rw [List.map_cons]
    simp [PyData.canLayAll0, PyData.canLay0, lay_strs ss fun y hy => h y (List.mem_cons_of_mem _ hy), h x List.mem_cons_self]
theorem depth_strs : ∀ ss : List Str, PyData.depthAll (ss.map PyData.str) ≤ 1
  | [] => by simp [PyData.depthAll]
  | x :: ss => by
    have := depth_strs ss
    rw [List.map_cons]
    simp only [PyData.depthAll, PyData.depth]
    omega
theorem shaped_tup {ss : List Str} (h : ∀ x ∈ ss, PyData.strOk x = true) : SeqAt.shaped (.tuple (ss.map PyData.str)) = true := by
  unfold SeqAt.shaped
  have h1 := lay_strs ss h
  have h2 := depth_strs ss
  rw [Bool.and_eq_true, decide_eq_true_eq]
  exact ⟨by simpa [PyData.canLay0] using h1, by simp only [PyData.depth]; omega⟩
theorem dp_strs {K : PySem.W.Frag} {H : Hp} : ∀ ss : List Str, DpAll K H (ss.map V.str) (ss.map PyData.str)
  | [] => .nil
  | x :: ss => .cons (.str x) (dp_strs ss)
section
variable {P : Program} {w : World} {K : PySem.W.Frag} {mg : Str → Option Value} {base : Heap} {σ : L2.St} {H : Hp} {te : TE}
theorem DefAt.gen {i n : Nat} {x : Str} {ps : List Str} {sp : Sp} {f : Addr} {fd : FuncData} (D : DefAt K mg i x ps f fd) (F : FnOk P w K mg base CX0 n f fd ps sp) : GenAt P w K mg base n x ps sp f fd := ⟨F, D.g, D.F.kp, D.b⟩
theorem et_truT {a : Addr} {xs : List V} (h : Ev te σ H (.ref a)) (hx : SqT K H a xs) : EvT (tTru K te) σ H (!xs.isEmpty) := fun H1 e Q q => h H1 e _ fun H2 e2 => ⟨!xs.isEmpty, .inr (.inl ⟨xs, ex_t (e.trans e2) hx, rfl⟩), q H2 e2⟩
theorem rv_eqU {p q : Addr} {a b : List Str} (h1 : H p = some (.tup (a.map V.str))) (h2 : H q = some (.tup (b.map V.str))) (o1 : ∀ x ∈ a, PyData.strOk x = true) (o2 : ∀ x ∈ b, PyData.strOk x = true) : RV (rEqD K) (.ref p) (.ref q) H (.bl (decide (a = b))) := fun H1 e Q k => by
  refine ⟨.tuple (a.map PyData.str), .tuple (b.map PyData.str), .tup (st_of (e _ _ h1)) (dp_strs a), .tup (st_of (e _ _ h2)) (dp_strs b), shaped_tup o1, shaped_tup o2, ?_⟩
  have : PyData.eqv (.tuple (a.map PyData.str)) (.tuple (b.map PyData.str)) = decide (a = b) := by
    rw [← eqv_strs]
    simp only [PyData.eqv]
  rw [this]
  exact k H1 (Ex.refl H1)
def joinL (a b : List Str) : List Str := if b = [] ∨ a = b then a else if a = [] then b else (dd (a ++ b)).mergeSort (PySem.W.dataLe false keyN)
def spJoined : Sp := fun vs H Q _ => ∃ (p q : Addr) (a b : List Str), vs = [.ref p, .ref q] ∧ H p = some (.tup (a.map V.str)) ∧ H q = some (.tup (b.map V.str)) ∧ (∀ x ∈ a, IsLet x) ∧ (∀ x ∈ b, IsLet x) ∧ a.length ≤ 500 ∧ b.length ≤ 500 ∧ ∀ r H', Ex H H' → H' r = some (.tup ((joinL a b).map V.str)) → Q (.ref r) H'
theorem scJ : FnScope ["first", "second"] ["first", "second"] (defScope (topS 24)) := ⟨rfl, rfl, rfl, by decide +kernel, rfl, by decide +kernel, by decide +kernel⟩
theorem ok_joined {f fi : Addr} {fd fdi : FuncData} (D : DefAt K mg 24 "joined" ["first", "second"] f fd) (IO : GenAt P w K mg base 4 "in_order" ["letters"] (spInOrder K) fi fdi) (M : NmS mg) : FnOk P w K mg base CX0 5 f fd ["first", "second"] spJoined := by
  refine D.F.ok scJ (fun vs H Q E h => ?_) (fun cdv A outer s H vs Q E hr h => ?_)
  · obtain ⟨p, q, a, b, rfl, _⟩ := h
    rfl
  · obtain ⟨p, q, a, b, rfl, hp, hq, la, lb, za, zb, k⟩ := h
    refine ⟨_, (pss_cons (ps_if (PW.pt (pw_or (pt_not (pt_tru (pv 1))) (pw_or1 (pt_cmpR (r := rEqD K) (op_eqD hr.units) (pv 0) (pv 1) (nomark _))))) (pss_one (ps_ret (pv 0))) pss_nil) (pss_cons (ps_if (pt_not (pt_tru (pv 0))) (pss_one (ps_ret (pv 1))) pss_nil) (pss_one (ps_ret (pe_callTy (T := "tuple") (call_tupK (K := K) rfl) (by rfl) M.tuple (by decide +kernel) (pa_cons (pe_call IO.F (hr.mono (by decide)) (by rfl) IO.g IO.kp IO.b .nil pass0 (pa_cons (pe_op (r := rCatT K) op_catT (pv 0) (pv 1)) pa_nil)) pa_nil)))))), ?_⟩
    have ht : ∀ b' : List Str, (!(!(b'.map V.str).isEmpty)) = decide (b' = []) := fun b' => by cases b' <;> simp
    have t1 : EvT (tOr (tNot (tTru K (tVar 1))) (tTest (tOp (rEqD K) (tVar 0) (tVar 1)))) [some (.ref p), some (.ref q)] H (decide (b = [] ∨ a = b)) :=
      et_is (et_or (et_is (et_not (et_truT (ev_var rfl) (st_of hq))) (ht b)) fun _ => et_test (ev_op (ev_var rfl) (ev_var rfl) (rv_eqU hp hq (fun x hx => let_ok (la x hx)) fun x hx => let_ok (lb x hx)))) (by simp)
    by_cases c1 : b = [] ∨ a = b
    · have e : joinL a b = a := by unfold joinL; rw [if_pos c1]
      rw [e] at k
      exact q_when (b := true) (et_is t1 (decide_eq_true c1)) (fun _ H1 e1 => s_ret (ev_var rfl) fun H2 e2 => k p H2 (e1.trans e2) (e2 _ _ (e1 _ _ hp))) (fun z => by cases z)
    · refine q_when (b := false) (et_is t1 (decide_eq_false c1)) (fun z => by cases z) (fun _ H1 e1 => ?_)
      have t2 : EvT (tNot (tTru K (tVar 0))) [some (.ref p), some (.ref q)] H1 (decide (a = [])) := et_is (et_not (et_truT (ev_var rfl) (st_of (e1 _ _ hp)))) (ht a)
      by_cases c2 : a = []
      · have e : joinL a b = b := by unfold joinL; rw [if_neg c1, if_pos c2]
        rw [e] at k
        exact q_when (b := true) (et_is t2 (decide_eq_true c2)) (fun _ H2 e2 => s_ret (ev_var rfl) fun H3 e3 => k q H3 ((e1.trans e2).trans e3) (e3 _ _ (e2 _ _ (e1 _ _ hq)))) (fun z => by cases z)
      · have e : joinL a b = (dd (a ++ b)).mergeSort (PySem.W.dataLe false keyN) := by unfold joinL; rw [if_neg c1, if_neg c2]
        rw [e] at k
        refine q_when (b := false) (et_is t2 (decide_eq_false c2)) (fun z => by cases z) (fun _ H2 e2 => ?_)
        have e02 := e1.trans e2
        have nb : b.map V.str ≠ [] := fun z => c1 (.inl (List.map_eq_nil_iff.mp z))
        have na : a.map V.str ≠ [] := fun z => c2 (List.map_eq_nil_iff.mp z)
        have hcat : EvU (tOp (rCatT K) (tVar 0) (tVar 1)) [some (.ref p), some (.ref q)] H2 ((a ++ b).map V.str) := fun H3 e3 Q2 q2 =>
          ⟨.ref p, rfl, .ref q, rfl, p, q, a.map V.str, b.map V.str, rfl, rfl, st_of (e3 _ _ (e02 _ _ hp)), st_of (e3 _ _ (e02 _ _ hq)), na, sz_of (by rw [List.length_map, List.length_map]; omega), fun z => absurd z nb, fun _ r hr => by
            rw [List.map_append] at q2
            exact q2 r _ hr (Ex.new hr) upd_same⟩
        have hio : EvL (tCall (spInOrder K) [] E0 (tCons (tOp (rCatT K) (tVar 0) (tVar 1)) tNil)) [some (.ref p), some (.ref q)] H2 (((dd (a ++ b)).mergeSort (PySem.W.dataLe false keyN)).map V.str) := fun H3 e3 Q2 q2 =>
          hcat H3 e3 _ fun r H4 hr e4 h4 => ⟨r, a ++ b, rfl, .inr (st_of h4), fun x hx => (List.mem_append.mp hx).elim (la x) (lb x), by rw [List.length_append]; omega, fun l H5 hl e5 h5 => q2 l H5 (fresh_back e4 hl) (e4.trans e5) h5⟩
        refine s_retU (xs := ((dd (a ++ b)).mergeSort (PySem.W.dataLe false keyN)).map V.str) (fun H3 e3 Q2 q2 => ?_) fun r H3 hr e3 h3 => k r H3 (e02.trans e3) h3
        exact hio H3 e3 _ fun l H4 hl e4 h4 => ⟨l, _, rfl, .inl ⟨sq_of h4, fun r hr => q2 r _ (fresh_back e4 hr) (e4.trans (Ex.new hr)) upd_same⟩⟩
end
end K87
-- T1
namespace K87
open PySem PySem.Spec PyProof.Rows L2 Evl KEv TL KDd KSq KSame KTxt KNew KD
/-! the store: what it holds, Terms.__init__ -/
/-- a term's row: its word, its parts, its sort, its size, its letters -/
structure Nd where
  w : Str
  ps : List Nat
  kd : Str
  sz : Nat
  ls : List Str
def tfs : List Str := ["signature", "_numbers", "_texts", "_words", "_parts", "_kinds", "_sizes", "_letters"]
def tms : List Str := ["_put", "letter", "make", "read", "_built", "word_of", "parts_of", "sort_of", "size_of", "letters_of", "first_letters_of", "put_in", "_touched", "write", "shared", "from_shared", "_of_row"]
structure TermC (K : PySem.W.Frag) (C : Addr) : Prop where
  cl : Cls K C
  na : ∀ f ∈ tfs, NoAttr K C f
/-- where the store's own objects stand -/
structure Ce where
  n : Addr
  t : Addr
  w : Addr
  p : Addr
  k : Addr
  s : Addr
  l : Addr
def keyN2 (x : Nd) : List Key := Sum.inr x.w :: x.ps.map fun n : Nat => Sum.inl (n : Int)
def numK (st : List Nd) : List (List Key × V) := st.zipIdx.map fun q => (keyN2 q.1, V.int (q.2 : Int))
/-- a store at a over the signature at sg -/
structure StoreAt (C : Addr) (H : Hp) (a sg : Addr) (c : Ce) (tx : List (Key × V)) (st : List Nd) : Prop where
  at_ : AtI C H a [("signature", .ref sg), ("_numbers", .ref c.n), ("_texts", .ref c.t), ("_words", .ref c.w), ("_parts", .ref c.p), ("_kinds", .ref c.k), ("_sizes", .ref c.s), ("_letters", .ref c.l)]
  no : ∃ dx fs, H a = some (.ins C dx fs) ∧ ∀ m ∈ tms, fs.lookup m = none
  n : H c.n = some (.dT (numK st))
  t : H c.t = some (.dK tx)
  w : H c.w = some (.lst (st.map fun x => V.str x.w))
  p : ∃ ads : List Addr, H c.p = some (.lst (ads.map V.ref)) ∧ ads.length = st.length ∧ ∀ (i : Nat) (q : Addr) (x : Nd), ads[i]? = some q → st[i]? = some x → H q = some (.tup (x.ps.map fun n : Nat => V.int (n : Int)))
  k : H c.k = some (.lst (st.map fun x => V.str x.kd))
  s : H c.s = some (.lst (st.map fun x => V.int (x.sz : Int)))
  l : ∃ ads : List Addr, H c.l = some (.lst (ads.map V.ref)) ∧ ads.length = st.length ∧ ∀ (i : Nat) (q : Addr) (x : Nd), ads[i]? = some q → st[i]? = some x → H q = some (.tup (x.ls.map V.str))
  nd : [c.n, c.t, c.w, c.p, c.k, c.s, c.l].Nodup
/-- while __init__ runs -/
structure InT (H G : Hp) (C a dx : Addr) (fs : List (Str × V)) (cs : List (Addr × HO)) : Prop where
  ex : ExB [a] H G
  at_ : G a = some (.ins C dx fs)
  ce : ∀ q ∈ cs, G q.1 = some q.2 ∧ q.1 ≠ a
  nd : (cs.map (·.1)).Nodup
theorem InT.step {H G H1 : Hp} {C a dx p : Addr} {fs : List (Str × V)} (f : Str) {cs : List (Addr × HO)} {o : HO} (h : InT H G C a dx fs cs) (hp : G p = none) (e : Ex G H1) (ho : H1 p = some o) : InT H (L2.upd H1 a (.ins C dx (putF f (.ref p) fs))) C a dx (putF f (.ref p) fs) (cs ++ [(p, o)]) := by
  have pa : p ≠ a := fun z => by rw [z, h.at_] at hp; cases hp
  refine ⟨fun b u hb hu => ?_, upd_same, fun q hq => ?_, ?_⟩
  · have ba : b ≠ a := fun z => hb (by rw [z]; exact List.mem_cons_self)
    rw [upd_ne ba]
    exact e _ _ (h.ex b u hb hu)
  · rcases List.mem_append.mp hq with hq | hq
    · obtain ⟨z1, z2⟩ := h.ce q hq
      exact ⟨by rw [upd_ne z2]; exact e _ _ z1, z2⟩
    · rw [List.mem_singleton.mp hq]
      exact ⟨by show L2.upd H1 a _ p = _; rw [upd_ne pa]; exact ho, pa⟩
  · rw [List.map_append, List.nodup_append]
    refine ⟨h.nd, by simp, fun x hx y hy => ?_⟩
    obtain ⟨q, hq, rfl⟩ := List.mem_map.mp hx
    have hy : y = p := by simpa using hy
    intro z
    have := (h.ce q hq).1
    rw [z, hy, hp] at this
    cases this
section
variable {P : Program} {w : World} {K : PySem.W.Frag} {mg : Str → Option Value} {base : Heap} {σ : L2.St} {H : Hp} {C : Addr}
/-- a new object -/
def EvO1 (te : TE) (σ : L2.St) (H : Hp) (o : HO) : Prop := ∀ H1, Ex H H1 → ∀ Q : VK, (∀ p H2, H1 p = none → Ex H1 H2 → H2 p = some o → Q (.ref p) H2) → te σ H1 Q
theorem q_fldO {D : Ends} {tz : TS} {ta tv : TE} {a dx : Addr} {fs : List (Str × V)} {f : Str} {o : HO} (S : TermC K C) (hv : EvO1 tv σ H o) (ha : Ev ta σ H (.ref a)) (h : H a = some (.ins C dx fs)) (hf : f ∈ tfs) (hl : fs.length ≤ 900)
    (k : ∀ p H1, H p = none → Ex H H1 → H1 p = some o → tz D σ (L2.upd H1 a (.ins C dx (putF f (.ref p) fs)))) : tSeq (sFld K ta tv f) tz D σ H :=
  hv H (Ex.refl H) _ fun p H1 hp e1 h1 => ha H1 e1 _ fun H2 e2 => ⟨a, C, dx, fs, rfl, e2 _ _ (e1 _ _ h), S.cl, S.na f hf, by omega, k p H2 hp (e1.trans e2) (e2 _ _ h1)⟩
theorem s_fldO {D : Ends} {ta tv : TE} {a dx : Addr} {fs : List (Str × V)} {f : Str} {o : HO} (S : TermC K C) (hv : EvO1 tv σ H o) (ha : Ev ta σ H (.ref a)) (h : H a = some (.ins C dx fs)) (hf : f ∈ tfs) (hl : fs.length ≤ 900)
    (k : ∀ p H1, H p = none → Ex H H1 → H1 p = some o → D.nx σ (L2.upd H1 a (.ins C dx (putF f (.ref p) fs)))) : sFld K ta tv f D σ H :=
  q_fldO (D := D) (tz := fun D σ H => D.nx σ H) S hv ha h hf hl k
theorem q_fldW {D : Ends} {tz : TS} {ta tv : TE} {a dx : Addr} {fs : List (Str × V)} {f : Str} {v : V} (S : TermC K C) (hv : Ev tv σ H v) (ha : Ev ta σ H (.ref a)) (h : H a = some (.ins C dx fs)) (hf : f ∈ tfs) (hl : fs.length ≤ 900)
    (k : ∀ H1, Ex H H1 → tz D σ (L2.upd H1 a (.ins C dx (putF f v fs)))) : tSeq (sFld K ta tv f) tz D σ H :=
  hv H (Ex.refl H) _ fun H1 e1 => ha H1 e1 _ fun H2 e2 => ⟨a, C, dx, fs, rfl, e2 _ _ (e1 _ _ h), S.cl, S.na f hf, by omega, k H2 (e1.trans e2)⟩
theorem eo_l : EvO1 (tLst tNil) σ H (.lst []) := el_lst ea_nil (by decide)
theorem eo_k : EvO1 tDNewK σ H (.dK []) := ed_new
theorem eo_t : EvO1 tDNewT σ H (.dT []) := fun H1 e Q q p hp => q p _ hp (Ex.new hp) upd_same
abbrev sTer (j : Nat) : Stmt := inClass (topS 25) j
def spTInit (C : Addr) : Sp := fun vs H Q _ => ∃ (a sg dx : Addr), vs = [.ref a, .ref sg] ∧ H a = some (.ins C dx []) ∧ ∀ c H', ExB [a] H H' → (∀ q ∈ [c.n, c.t, c.w, c.p, c.k, c.s, c.l], H q = none) → StoreAt C H' a sg c [] [] → Q .non H'
theorem scTi : FnScope ["self", "signature"] ["self", "signature"] (defScope (sTer 0)) := ⟨rfl, rfl, rfl, by decide +kernel, rfl, by decide +kernel, by decide +kernel⟩
theorem ok_tinit {f : Addr} {fd : FuncData} (F : Fun K "__init__" "Terms.__init__" (sTer 0) f fd) (S : TermC K C) : FnOk P w K mg base CX0 1 f fd ["self", "signature"] (spTInit C) := by
  refine F.ok scTi (fun vs H Q E h => ?_) (fun cdv A outer s H vs Q E hr h => ?_)
  · obtain ⟨a, sg, dx, rfl, _⟩ := h
    rfl
  · obtain ⟨a, sg, dx, rfl, ha, k⟩ := h
    refine ⟨_, (pss_cons (ps_fld (pv 0) (pv 1) (by rfl)) (pss_cons (ps_fld (pv 0) pe_dnewT (by rfl)) (pss_cons (ps_fld (pv 0) pe_dnewK (by rfl)) (pss_cons (ps_fld (pv 0) (pe_lst pa_nil) (by rfl)) (pss_cons (ps_fld (pv 0) (pe_lst pa_nil) (by rfl)) (pss_cons (ps_fld (pv 0) (pe_lst pa_nil) (by rfl)) (pss_cons (ps_fld (pv 0) (pe_lst pa_nil) (by rfl)) (pss_one (ps_fld (pv 0) (pe_lst pa_nil) (by rfl)))))))))), ?_⟩
    have bk : ∀ {G : Hp} {fs : List (Str × V)} {cs : List (Addr × HO)} {p : Addr}, InT H G C a dx fs cs → G p = none → H p = none := fun {G fs cs p} I hp => by
      cases e : H p with
      | none => rfl
      | some o =>
        by_cases z : p = a
        · rw [z, I.at_] at hp
          cases hp
        · rw [I.ex p o (by simpa using z) e] at hp
          cases hp
    refine q_fldW (f := "signature") S (ev_var rfl) (ev_var rfl) ha (by decide) (by decide) fun H1 e1 => ?_
    have I1 : InT H (L2.upd H1 a (.ins C dx (putF "signature" (.ref sg) []))) C a dx _ [] := ⟨fun b u hb hu => by
      rw [upd_ne (fun z => hb (by rw [z]; exact List.mem_cons_self))]
      exact e1 _ _ hu, upd_same, fun q hq => (by cases hq), List.nodup_nil⟩
    refine q_fldO (f := "_numbers") S eo_t (ev_var rfl) I1.at_ (by decide) (Nat.le_of_ble_eq_true (by with_unfolding_all rfl)) fun p2 H2 n2 e2 h2 => ?_
    have I2 := I1.step "_numbers" n2 e2 h2
    refine q_fldO (f := "_texts") S eo_k (ev_var rfl) I2.at_ (by decide) (Nat.le_of_ble_eq_true (by with_unfolding_all rfl)) fun p3 H3 n3 e3 h3 => ?_
    have I3 := I2.step "_texts" n3 e3 h3
    refine q_fldO (f := "_words") S eo_l (ev_var rfl) I3.at_ (by decide) (Nat.le_of_ble_eq_true (by with_unfolding_all rfl)) fun p4 H4 n4 e4 h4 => ?_
    have I4 := I3.step "_words" n4 e4 h4
    refine q_fldO (f := "_parts") S eo_l (ev_var rfl) I4.at_ (by decide) (Nat.le_of_ble_eq_true (by with_unfolding_all rfl)) fun p5 H5 n5 e5 h5 => ?_
    have I5 := I4.step "_parts" n5 e5 h5
    refine q_fldO (f := "_kinds") S eo_l (ev_var rfl) I5.at_ (by decide) (Nat.le_of_ble_eq_true (by with_unfolding_all rfl)) fun p6 H6 n6 e6 h6 => ?_
    have I6 := I5.step "_kinds" n6 e6 h6
    refine q_fldO (f := "_sizes") S eo_l (ev_var rfl) I6.at_ (by decide) (Nat.le_of_ble_eq_true (by with_unfolding_all rfl)) fun p7 H7 n7 e7 h7 => ?_
    have I7 := I6.step "_sizes" n7 e7 h7
    refine s_fldO (f := "_letters") S eo_l (ev_var rfl) I7.at_ (by decide) (Nat.le_of_ble_eq_true (by with_unfolding_all rfl)) fun p8 H8 n8 e8 h8 => ?_
    have I8 := I7.step "_letters" n8 e8 h8
    refine k ⟨p2, p3, p4, p5, p6, p7, p8⟩ _ I8.ex (fun q hq => ?_) ⟨⟨dx, _, I8.at_, fun q hq => ?_⟩, ⟨dx, _, I8.at_, fun m hm => ?_⟩, (I8.ce (p2, .dT []) (by simp)).1, (I8.ce (p3, .dK []) (by simp)).1, (I8.ce (p4, .lst []) (by simp)).1, ⟨[], (I8.ce (p5, .lst []) (by simp)).1, rfl, fun i q x z => by simp at z⟩, (I8.ce (p6, .lst []) (by simp)).1, (I8.ce (p7, .lst []) (by simp)).1, ⟨[], (I8.ce (p8, .lst []) (by simp)).1, rfl, fun i q x z => by simp at z⟩, by simpa using I8.nd⟩
    · simp only [List.mem_cons, List.not_mem_nil, or_false] at hq
      rcases hq with rfl | rfl | rfl | rfl | rfl | rfl | rfl
      · exact bk I1 n2
      · exact bk I2 n3
      · exact bk I3 n4
      · exact bk I4 n5
      · exact bk I5 n6
      · exact bk I6 n7
      · exact bk I7 n8
    · simp only [List.mem_cons, List.not_mem_nil, or_false] at hq
      rcases hq with rfl | rfl | rfl | rfl | rfl | rfl | rfl | rfl <;> with_unfolding_all rfl
    · have hm2 := hm
      unfold tms at hm
      simp only [List.mem_cons, List.not_mem_nil, or_false] at hm
      rcases hm with rfl | rfl | rfl | rfl | rfl | rfl | rfl | rfl | rfl | rfl | rfl | rfl | rfl | rfl | rfl | rfl | rfl <;> with_unfolding_all rfl
end
end K87
-- T2
namespace K87
open PySem PySem.Spec PyProof.Rows L2 Evl KEv TL KDd KSq KSame KTxt KNew KD
/-! what _put makes, in plain words -/
def capH (x : Str) : Bool := headIn (tl capitals) (tl x)
def szOf (st : List Nd) (i : Nat) : Nat := (st[i]?.map (·.sz)).getD 0
def lsOf (st : List Nd) (i : Nat) : List Str := (st[i]?.map (·.ls)).getD []
def sizeP (st : List Nd) (ps : List Nat) : Nat := 1 + (ps.map (szOf st)).sum
def letP (st : List Nd) (w : Str) (ps : List Nat) : List Str := ps.foldl (fun a i => joinL a (lsOf st i)) (if capH w then [w] else [])
def newNd (st : List Nd) (w : Str) (ps : List Nat) (kd : Str) : Nd := ⟨w, ps, kd, sizeP st ps, letP st w ps⟩
def isNd (w : Str) (ps : List Nat) (x : Nd) : Bool := decide (x.w = w ∧ x.ps = ps)
def putS (st : List Nd) (w : Str) (ps : List Nat) (kd : Str) : List Nd × Nat := match st.findIdx? (isNd w ps) with
  | some i => (st, i)
  | none => (st ++ [newNd st w ps kd], st.length)
/-- the letters of a store lie among L, each once -/
structure StOk (L : List Str) (st : List Nd) : Prop where
  ls : ∀ x ∈ st, x.ls.Nodup ∧ ∀ y ∈ x.ls, y ∈ L
structure LsOk (L : List Str) : Prop where
  ok : ∀ x ∈ L, IsLet x
  len : L.length ≤ 500
theorem sub_len : ∀ {a L : List Str}, a.Nodup → (∀ y ∈ a, y ∈ L) → a.length ≤ L.length
  | [], _, _, _ => Nat.zero_le _
  | x :: a, L, h1, h2 => by
    rw [List.nodup_cons] at h1
    have hx := h2 x List.mem_cons_self
    have q := sub_len (a := a) (L := L.erase x) h1.2 fun y hy => (List.mem_erase_of_ne fun z => h1.1 (by rw [← z]; exact hy)).mpr (h2 y (List.mem_cons_of_mem _ hy))
    rw [List.length_erase_of_mem hx] at q
    have := List.length_pos_of_mem hx
    rw [List.length_cons]
    omega
theorem join_ok {a b L : List Str} (ha : a.Nodup ∧ ∀ y ∈ a, y ∈ L) (hb : b.Nodup ∧ ∀ y ∈ b, y ∈ L) : (joinL a b).Nodup ∧ ∀ y ∈ joinL a b, y ∈ L := by
  unfold joinL
  by_cases c1 : b = [] ∨ a = b
  · rw [if_pos c1]
    exact ha
  · rw [if_neg c1]
    by_cases c2 : a = []
    · rw [if_pos c2]
      exact hb
    · rw [if_neg c2]
      have pm := List.mergeSort_perm (dd (a ++ b)) (PySem.W.dataLe false keyN)
      refine ⟨pm.nodup_iff.mpr dd_nodup, fun y hy => ?_⟩
      have := dd_mem.mp (pm.mem_iff.mp hy)
      exact (List.mem_append.mp this).elim (ha.2 y) (hb.2 y)
theorem lsOf_ok {L : List Str} {st : List Nd} (h : StOk L st) (i : Nat) : (lsOf st i).Nodup ∧ ∀ y ∈ lsOf st i, y ∈ L := by
  unfold lsOf
  cases e : st[i]? with
  | none => exact ⟨List.nodup_nil, fun y hy => by cases hy⟩
  | some x => exact h.ls x (List.mem_of_getElem? e)
theorem fold_ok {L : List Str} {st : List Nd} (h : StOk L st) : ∀ (ps : List Nat) (a : List Str), (a.Nodup ∧ ∀ y ∈ a, y ∈ L) → ((ps.foldl (fun a i => joinL a (lsOf st i)) a).Nodup ∧ ∀ y ∈ ps.foldl (fun a i => joinL a (lsOf st i)) a, y ∈ L)
  | [], _, ha => ha
  | i :: ps, a, ha => fold_ok h ps _ (join_ok ha (lsOf_ok h i))
theorem put_ok {L : List Str} {st : List Nd} {w : Str} {ps : List Nat} {kd : Str} (h : StOk L st) (hw : capH w = true → w ∈ L) : StOk L (putS st w ps kd).1 := by
  unfold putS
  cases e : st.findIdx? (isNd w ps) with
  | some i => exact h
  | none =>
    refine ⟨fun x hx => ?_⟩
    rcases List.mem_append.mp hx with hx | hx
    · exact h.ls x hx
    · rw [List.mem_singleton.mp hx]
      refine fold_ok h ps _ ?_
      by_cases c : capH w = true
      · rw [if_pos c]
        exact ⟨by simp, fun y hy => by rw [List.mem_singleton.mp hy]; exact hw c⟩
      · rw [if_neg c]
        exact ⟨List.nodup_nil, fun y hy => by cases hy⟩
/-- the dict of numbers, asked and added to -/
theorem key_inj {x : Nd} {w : Str} {ps : List Nat} : keyN2 x = (Sum.inr w :: ps.map fun n : Nat => Sum.inl (n : Int)) ↔ x.w = w ∧ x.ps = ps := by
  unfold keyN2
  constructor
  · intro h
    injection h with h1 h2
    refine ⟨Sum.inr.inj h1, ?_⟩
    have : ∀ a b : List Nat, (a.map fun n : Nat => (Sum.inl (n : Int) : Key)) = (b.map fun n : Nat => Sum.inl (n : Int)) → a = b := by
      intro a
      induction a with
      | nil =>
        intro b h
        cases b with
        | nil => rfl
        | cons _ _ => cases h
      | cons x a ih =>
        intro b h
        cases b with
        | nil => cases h
        | cons y b =>
          injection h with h1 h2
          have h3 := Sum.inl.inj h1
          have h4 : x = y := by omega
          rw [h4, ih b h2]
    exact this _ _ h2
  · rintro ⟨rfl, rfl⟩
    rfl
theorem val_zip (w : Str) (ps : List Nat) : ∀ (st : List Nd) (k : Nat), valV ((st.zipIdx k).map fun q => (keyN2 q.1, V.int (q.2 : Int))) (Sum.inr w :: ps.map fun n : Nat => Sum.inl (n : Int)) = (st.findIdx? (isNd w ps)).map fun i => V.int ((i + k : Nat) : Int)
  | [], _ => rfl
  | x :: st, k => by
    have ih := val_zip w ps st (k + 1)
    rw [List.zipIdx_cons, List.map_cons, List.findIdx?_cons]
    by_cases c : x.w = w ∧ x.ps = ps
    · have e : isNd w ps x = true := decide_eq_true c
      rw [e]
      unfold valV
      rw [List.find?_cons_of_pos (by simpa using key_inj.mpr c)]
      simp
    · have e : isNd w ps x = false := decide_eq_false c
      rw [e]
      unfold valV at ih ⊢
      rw [List.find?_cons_of_neg (by simpa using fun z => c (key_inj.mp z)), ih]
      cases st.findIdx? (isNd w ps) with
      | none => rfl
      | some i =>
        simp only [Option.map_some, Bool.false_eq_true, if_false]
        congr 2
        omega
theorem val_num (w : Str) (ps : List Nat) (st : List Nd) : valV (numK st) (Sum.inr w :: ps.map fun n : Nat => Sum.inl (n : Int)) = (st.findIdx? (isNd w ps)).map fun i : Nat => V.int (i : Int) := by
  have := val_zip w ps st 0
  simpa [numK] using this
end K87
-- T3
namespace K87
open PySem PySem.Spec PyProof.Rows L2 Evl KEv TL KDd KSq KSame KTxt KNew KD
/-! _put: the walk -/
section
variable {P : Program} {w : World} {K : PySem.W.Frag} {mg : Str → Option Value} {base : Heap} {σ : L2.St} {H : Hp} {C : Addr}
theorem scPut : FnScope ["self", "word", "parts", "kind", "key", "number", "letters", "size", "part"] ["self", "word", "parts", "kind"] (defScope (sTer 1)) := ⟨rfl, rfl, rfl, by decide +kernel, rfl, by decide +kernel, by decide +kernel⟩
theorem walk_put {f fj : Addr} {fd fdj : FuncData} (JO : GenAt P w K mg base 5 "joined" ["first", "second"] spJoined fj fdj) (N : Nm mg) {cdv : Value} {A : Around} {outer : List Env} {s : Shared} {E : XK} (hr : Room 5 (A.deeper (envOfC "Terms._put" (defScope (sTer 1)) s.heap.objs.size f cdv))) {tc : Tok} (gC : mg "CAPITALS" = some (.str capitals tc)) (hu : (A.deeper (envOfC "Terms._put" (defScope (sTer 1)) s.heap.objs.size f cdv)).units + 1 < cLine) :
    ∃ t, PSs (cxOf CX0 P w K mg base ["self", "word", "parts", "kind", "key", "number", "letters", "size", "part"] "Terms._put" (defScope (sTer 1)) f cdv A outer s H E).nox (defBody (sTer 1)) t :=
  ⟨_, (pss_cons (ps_asg (pe_op (r := rCatT K) op_catT (pe_tup (pa_cons (pv 1) pa_nil)) (pv 2)) (pg_name (i := 4) scPut.nd rfl (.inl rfl))) (pss_cons (ps_if (pt_cmp (pc_din hu (pv 4) (pe_fld (pv 0) (by rfl)))) (pss_one (ps_ret (pe_dget hu (pe_fld (pv 0) (by rfl)) (pv 4) (fun _ _ => rfl)))) pss_nil) (pss_cons (ps_asg (pe_callB (r := rLenS K) call_len_seq (by rfl) N.len PySem.boot_len (pa_cons (pe_fld (pv 0) (by rfl)) pa_nil)) (pg_name (i := 5) scPut.nd rfl (.inl rfl))) (pss_cons (ps_asg (pe_ifExp (pt_cmpR op_isS (pe_ix ix_str (pv 1) pe_int (fun _ _ => rfl)) (pe_glob (v := .str capitals) (by rfl) gC relS) rfl) (pe_tup (pa_cons (pv 1) pa_nil)) (pe_tup pa_nil)) (pg_name (i := 6) scPut.nd rfl (.inl rfl))) (pss_cons (ps_asg pe_int (pg_name (i := 7) scPut.nd rfl (.inl rfl))) (pss_cons (ps_for PassesOwn.never rfl (pi_tup (pv 2)) (pg_name (i := 8) scPut.nd rfl (.inl rfl)) (pss_cons (ps_asg (pe_call JO.F (hr.mono (by decide)) (by rfl) JO.g JO.kp JO.b .nil pass0 (pa_cons (pv 6) (pa_cons (pe_ix (r := rIxL K) ix_list (pe_fld (pv 0) (by rfl)) (pv 8) (fun _ _ => rfl)) pa_nil))) (pg_name (i := 6) scPut.nd rfl (.inl rfl))) (pss_one (ps_aug (i := 7) scPut.nd rfl (.inl rfl) (pe_ix (r := rIxL K) ix_list (pe_fld (pv 0) (by rfl)) (pv 8) (fun _ _ => rfl)) ip_add)))) (pss_cons (ps_dput hu (pe_fld (pv 0) (by rfl)) (pv 4) (pv 5) rfl) (pss_cons (ps_expr (pe_bm PySem.F.plainAttrs_list PySem.F.slot_list_append PySem.F.type_list_append mt_append (pe_fld (pv 0) (by rfl)) (pa_cons (pv 1) pa_nil))) (pss_cons (ps_expr (pe_bm PySem.F.plainAttrs_list PySem.F.slot_list_append PySem.F.type_list_append mt_append (pe_fld (pv 0) (by rfl)) (pa_cons (pv 2) pa_nil))) (pss_cons (ps_expr (pe_bm PySem.F.plainAttrs_list PySem.F.slot_list_append PySem.F.type_list_append mt_append (pe_fld (pv 0) (by rfl)) (pa_cons (pv 3) pa_nil))) (pss_cons (ps_expr (pe_bm PySem.F.plainAttrs_list PySem.F.slot_list_append PySem.F.type_list_append mt_append (pe_fld (pv 0) (by rfl)) (pa_cons (pv 7) pa_nil))) (pss_cons (ps_expr (pe_bm PySem.F.plainAttrs_list PySem.F.slot_list_append PySem.F.type_list_append mt_append (pe_fld (pv 0) (by rfl)) (pa_cons (pv 6) pa_nil))) (pss_one (ps_ret (pv 5)))))))))))))))⟩
end
end K87
-- T4
namespace K87
open PySem PySem.Spec PyProof.Rows L2 Evl KEv TL KDd KSq KSame KTxt KNew KD
/-! rules for the store's reading -/
theorem put_num {st : List Nd} {x : Nd} (h : st.findIdx? (isNd x.w x.ps) = none) : putK (numK st) (keyN2 x) (.int (st.length : Int)) = numK (st ++ [x]) := by
  have hv : valV (numK st) (keyN2 x) = none := by
    have := val_num x.w x.ps st
    rw [h] at this
    exact this
  rw [putK_new _ hv]
  unfold numK
  rw [List.zipIdx_append, List.map_append]
  simp
theorem StoreAt.mono {C a sg : Addr} {H H' : Hp} {c : Ce} {tx : List (Key × V)} {st : List Nd} (h : StoreAt C H a sg c tx st) (e : Ex H H') : StoreAt C H' a sg c tx st := by
  obtain ⟨h1, ⟨dx, fs, h2, h3⟩, h4, h5, h6, ⟨ad, p1, p2, p3⟩, h7, h8, ⟨al, l1, l2, l3⟩, h9⟩ := h
  exact ⟨h1.ex e, ⟨dx, fs, e _ _ h2, h3⟩, e _ _ h4, e _ _ h5, e _ _ h6, ⟨ad, e _ _ p1, p2, fun i q x z1 z2 => e _ _ (p3 i q x z1 z2)⟩, e _ _ h7, e _ _ h8, ⟨al, e _ _ l1, l2, fun i q x z1 z2 => e _ _ (l3 i q x z1 z2)⟩, h9⟩
section
variable {K : PySem.W.Frag} {σ : L2.St} {H : Hp} {C : Addr} {ta td ty : TE}
theorem ev_tfl {a : Addr} {m : List (Str × V)} {f : Str} {v : V} (S : TermC K C) (h : Ev ta σ H (.ref a)) (hA : AtI C H a m) (hm : (f, v) ∈ m) (hf : f ∈ tfs) : Ev (tFld K ta f) σ H v := fun H1 e Q q =>
  h H1 e _ fun H2 e2 => by
    obtain ⟨dx, fs, h1, h2⟩ := hA
    exact ⟨a, C, dx, fs, v, rfl, e2 _ _ (e _ _ h1), S.cl, S.na f hf, h2 _ hm, q H2 e2⟩
theorem ev_dinT {a b : Addr} {kvs : List (List Key × V)} {k : List Key} (hk : Ev ty σ H (.ref b)) (hb : H b = some (.tup (k.map kV))) (hd : Ev td σ H (.ref a)) (h : H a = some (.dT kvs)) : Ev (tDIn ty td) σ H (.bl (valV kvs k).isSome) := fun H1 e Q q =>
  hk H1 e _ fun H2 e2 => hd H2 (e.trans e2) _ fun H3 e3 => ⟨a, _, rfl, DGet.t (e3 _ _ (e2 _ _ (e _ _ h))) (e3 _ _ (e2 _ _ (e _ _ hb))), q H3 (e2.trans e3)⟩
/-- (word,) + parts -/
theorem eu_key {tw tp : TE} {w : Str} {pp : Addr} {ps : List Nat} (hw : Ev tw σ H (.str w)) (hp : Ev tp σ H (.ref pp)) (h : H pp = some (.tup (ps.map fun n : Nat => V.int (n : Int)))) (hl : ps.length ≤ 1000) : EvU (tOp (rCatT K) (tTup (tCons tw tNil)) tp) σ H (V.str w :: ps.map fun n : Nat => V.int (n : Int)) := fun H1 e Q q =>
  (eu_tup (ea_cons hw ea_nil) (by simp)) H1 e _ fun r H2 hr e2 h2 => hp H2 (e.trans e2) _ fun H3 e3 => by
    refine ⟨r, pp, [V.str w], ps.map fun n : Nat => V.int (n : Int), rfl, rfl, st_of (e3 _ _ h2), st_of (e3 _ _ (e2 _ _ (e _ _ h))), by simp, sz_of (by simp; omega), fun z => ?_, fun _ l hl => q l _ (fresh_back (e2.trans e3) hl) ((e2.trans e3).trans (Ex.new hl)) upd_same⟩
    refine q r H3 hr (e2.trans e3) ?_
    rw [z]
    exact e3 _ _ h2
end
end K87
-- T4b
namespace K87
open PySem PySem.Spec PyProof.Rows L2 Evl KEv TL KDd KSq KSame KTxt KNew KD
/-! the store's six cells while _put fills them -/
def cells (c : Ce) : List Addr := [c.n, c.w, c.p, c.k, c.s, c.l]
structure Cs (c : Ce) (H G : Hp) (n w p k s l : HO) : Prop where
  ex : ExB (cells c) H G
  n : G c.n = some n
  w : G c.w = some w
  p : G c.p = some p
  k : G c.k = some k
  s : G c.s = some s
  l : G c.l = some l
section
variable {c : Ce} {H G G' : Hp} {n w p k s l u : HO} {C a sg : Addr} {tx : List (Key × V)} {st : List Nd}
theorem Cs.go (h : Cs c H G n w p k s l) (e : Ex G G') : Cs c H G' n w p k s l := ⟨h.ex.ex e, e _ _ h.n, e _ _ h.w, e _ _ h.p, e _ _ h.k, e _ _ h.s, e _ _ h.l⟩
theorem ExB.updC {q : Addr} (h : ExB (cells c) H G) (hq : q ∈ cells c) : ExB (cells c) H (L2.upd G q u) := fun b o hb ho => by
  rw [upd_ne (fun z => hb (by rw [z]; exact hq))]
  exact h b o hb ho
def Dis (c : Ce) : Prop := [c.n, c.t, c.w, c.p, c.k, c.s, c.l].Nodup
theorem Cs.upn (h : Cs c H G n w p k s l) (d : Dis c) (e : Ex G G') : Cs c H (L2.upd G' c.n u) u w p k s l := by
  refine ⟨(h.ex.ex e).updC (by simp [cells]), upd_same, ?_, ?_, ?_, ?_, ?_⟩
  all_goals rw [upd_ne (fun z => by unfold Dis at d; rw [z] at d; simp at d)]
  · exact e _ _ h.w
  · exact e _ _ h.p
  · exact e _ _ h.k
  · exact e _ _ h.s
  · exact e _ _ h.l
theorem Cs.upw (h : Cs c H G n w p k s l) (d : Dis c) (e : Ex G G') : Cs c H (L2.upd G' c.w u) n u p k s l := by
  refine ⟨(h.ex.ex e).updC (by simp [cells]), ?_, upd_same, ?_, ?_, ?_, ?_⟩
  all_goals rw [upd_ne (fun z => by unfold Dis at d; rw [z] at d; simp at d)]
  · exact e _ _ h.n
  · exact e _ _ h.p
  · exact e _ _ h.k
  · exact e _ _ h.s
  · exact e _ _ h.l
theorem Cs.upp (h : Cs c H G n w p k s l) (d : Dis c) (e : Ex G G') : Cs c H (L2.upd G' c.p u) n w u k s l := by
  refine ⟨(h.ex.ex e).updC (by simp [cells]), ?_, ?_, upd_same, ?_, ?_, ?_⟩
  all_goals rw [upd_ne (fun z => by unfold Dis at d; rw [z] at d; simp at d)]
  · exact e _ _ h.n
  · exact e _ _ h.w
  · exact e _ _ h.k
  · exact e _ _ h.s
  · exact e _ _ h.l
theorem Cs.upk (h : Cs c H G n w p k s l) (d : Dis c) (e : Ex G G') : Cs c H (L2.upd G' c.k u) n w p u s l := by
  refine ⟨(h.ex.ex e).updC (by simp [cells]), ?_, ?_, ?_, upd_same, ?_, ?_⟩
  all_goals rw [upd_ne (fun z => by unfold Dis at d; rw [z] at d; simp at d)]
  · exact e _ _ h.n
  · exact e _ _ h.w
  · exact e _ _ h.p
  · exact e _ _ h.s
  · exact e _ _ h.l
theorem Cs.ups (h : Cs c H G n w p k s l) (d : Dis c) (e : Ex G G') : Cs c H (L2.upd G' c.s u) n w p k u l := by
  refine ⟨(h.ex.ex e).updC (by simp [cells]), ?_, ?_, ?_, ?_, upd_same, ?_⟩
  all_goals rw [upd_ne (fun z => by unfold Dis at d; rw [z] at d; simp at d)]
  · exact e _ _ h.n
  · exact e _ _ h.w
  · exact e _ _ h.p
  · exact e _ _ h.k
  · exact e _ _ h.l
theorem Cs.upl (h : Cs c H G n w p k s l) (d : Dis c) (e : Ex G G') : Cs c H (L2.upd G' c.l u) n w p k s u := by
  refine ⟨(h.ex.ex e).updC (by simp [cells]), ?_, ?_, ?_, ?_, ?_, upd_same⟩
  all_goals rw [upd_ne (fun z => by unfold Dis at d; rw [z] at d; simp at d)]
  · exact e _ _ h.n
  · exact e _ _ h.w
  · exact e _ _ h.p
  · exact e _ _ h.k
  · exact e _ _ h.s
/-- what stands in a cell is a list or the dict of numbers -/
theorem nin (hS : StoreAt C H a sg c tx st) {b : Addr} {o : HO} (hb : H b = some o) (h1 : ∀ xs, o ≠ .lst xs) (h2 : ∀ ks, o ≠ .dT ks) : b ∉ cells c := by
  obtain ⟨ad, p1, _⟩ := hS.p
  obtain ⟨al, l1, _⟩ := hS.l
  intro z
  simp only [cells, List.mem_cons, List.not_mem_nil, or_false] at z
  rcases z with rfl | rfl | rfl | rfl | rfl | rfl
  · rw [hS.n] at hb
    exact h2 _ (Option.some.inj hb).symm
  · rw [hS.w] at hb
    exact h1 _ (Option.some.inj hb).symm
  · rw [p1] at hb
    exact h1 _ (Option.some.inj hb).symm
  · rw [hS.k] at hb
    exact h1 _ (Option.some.inj hb).symm
  · rw [hS.s] at hb
    exact h1 _ (Option.some.inj hb).symm
  · rw [l1] at hb
    exact h1 _ (Option.some.inj hb).symm
theorem nin_tup (hS : StoreAt C H a sg c tx st) {b : Addr} {xs : List V} (hb : H b = some (.tup xs)) : b ∉ cells c := nin hS hb (fun _ z => by cases z) (fun _ z => by cases z)
theorem nin_ins (hS : StoreAt C H a sg c tx st) {b dx C' : Addr} {fs : List (Str × V)} (hb : H b = some (.ins C' dx fs)) : b ∉ cells c := nin hS hb (fun _ z => by cases z) (fun _ z => by cases z)
theorem Cs.atS (h : Cs c H G n w p k s l) (hS : StoreAt C H a sg c tx st) : AtI C G a [("signature", .ref sg), ("_numbers", .ref c.n), ("_texts", .ref c.t), ("_words", .ref c.w), ("_parts", .ref c.p), ("_kinds", .ref c.k), ("_sizes", .ref c.s), ("_letters", .ref c.l)] := by
  obtain ⟨dx, fs, h1, h2⟩ := hS.at_
  exact ⟨dx, fs, h.ex _ _ (nin_ins hS h1) h1, h2⟩
/-- all seven fields of the store -/
theorem mem_f : (("signature" : Str), V.ref sg) ∈ ([("signature", V.ref sg), ("_numbers", .ref c.n), ("_texts", .ref c.t), ("_words", .ref c.w), ("_parts", .ref c.p), ("_kinds", .ref c.k), ("_sizes", .ref c.s), ("_letters", .ref c.l)] : List (Str × V)) ∧
  (("_numbers" : Str), V.ref c.n) ∈ ([("signature", V.ref sg), ("_numbers", .ref c.n), ("_texts", .ref c.t), ("_words", .ref c.w), ("_parts", .ref c.p), ("_kinds", .ref c.k), ("_sizes", .ref c.s), ("_letters", .ref c.l)] : List (Str × V)) ∧
  (("_texts" : Str), V.ref c.t) ∈ ([("signature", V.ref sg), ("_numbers", .ref c.n), ("_texts", .ref c.t), ("_words", .ref c.w), ("_parts", .ref c.p), ("_kinds", .ref c.k), ("_sizes", .ref c.s), ("_letters", .ref c.l)] : List (Str × V)) ∧
  (("_words" : Str), V.ref c.w) ∈ ([("signature", V.ref sg), ("_numbers", .ref c.n), ("_texts", .ref c.t), ("_words", .ref c.w), ("_parts", .ref c.p), ("_kinds", .ref c.k), ("_sizes", .ref c.s), ("_letters", .ref c.l)] : List (Str × V)) ∧
  (("_parts" : Str), V.ref c.p) ∈ ([("signature", V.ref sg), ("_numbers", .ref c.n), ("_texts", .ref c.t), ("_words", .ref c.w), ("_parts", .ref c.p), ("_kinds", .ref c.k), ("_sizes", .ref c.s), ("_letters", .ref c.l)] : List (Str × V)) ∧
  (("_kinds" : Str), V.ref c.k) ∈ ([("signature", V.ref sg), ("_numbers", .ref c.n), ("_texts", .ref c.t), ("_words", .ref c.w), ("_parts", .ref c.p), ("_kinds", .ref c.k), ("_sizes", .ref c.s), ("_letters", .ref c.l)] : List (Str × V)) ∧
  (("_sizes" : Str), V.ref c.s) ∈ ([("signature", V.ref sg), ("_numbers", .ref c.n), ("_texts", .ref c.t), ("_words", .ref c.w), ("_parts", .ref c.p), ("_kinds", .ref c.k), ("_sizes", .ref c.s), ("_letters", .ref c.l)] : List (Str × V)) ∧
  (("_letters" : Str), V.ref c.l) ∈ ([("signature", V.ref sg), ("_numbers", .ref c.n), ("_texts", .ref c.t), ("_words", .ref c.w), ("_parts", .ref c.p), ("_kinds", .ref c.k), ("_sizes", .ref c.s), ("_letters", .ref c.l)] : List (Str × V)) := by simp
theorem Cs.store {x : Nd} {ads als : List Addr} {pp lr : Addr} (hS : StoreAt C H a sg c tx st)
    (hp : H c.p = some (.lst (ads.map V.ref)) ∧ ads.length = st.length ∧ ∀ (i : Nat) (q : Addr) (x : Nd), ads[i]? = some q → st[i]? = some x → H q = some (.tup (x.ps.map fun n : Nat => V.int (n : Int))))
    (hl : H c.l = some (.lst (als.map V.ref)) ∧ als.length = st.length ∧ ∀ (i : Nat) (q : Addr) (x : Nd), als[i]? = some q → st[i]? = some x → H q = some (.tup (x.ls.map V.str)))
    (h : Cs c H G (.dT (numK (st ++ [x]))) (.lst ((st.map fun x => V.str x.w) ++ [.str x.w])) (.lst (ads.map V.ref ++ [.ref pp])) (.lst ((st.map fun x => V.str x.kd) ++ [.str x.kd])) (.lst ((st.map fun x => V.int (x.sz : Int)) ++ [.int (x.sz : Int)])) (.lst (als.map V.ref ++ [.ref lr])))
    (h1 : G pp = some (.tup (x.ps.map fun n : Nat => V.int (n : Int)))) (h2 : G lr = some (.tup (x.ls.map V.str))) : StoreAt C G a sg c tx (st ++ [x]) := by
  have key : ∀ (f : Nd → HO) (qs : List Addr) (q0 : Addr), qs.length = st.length → (∀ y zs, f y ≠ .lst zs) → (∀ y zs, f y ≠ .dT zs) → (∀ (i : Nat) (q : Addr) (x : Nd), qs[i]? = some q → st[i]? = some x → H q = some (f x)) → G q0 = some (f x) → ∀ (i : Nat) (q : Addr) (y : Nd), (qs ++ [q0])[i]? = some q → (st ++ [x])[i]? = some y → G q = some (f y) := by
    intro f qs q0 hlen f1 f2 hold hnew i q y hq hy
    by_cases hi : i < st.length
    · rw [List.getElem?_append_left (by omega)] at hq
      rw [List.getElem?_append_left hi] at hy
      have := hold i q y hq hy
      exact h.ex _ _ (nin hS this (f1 y) (f2 y)) this
    · have li := (List.getElem?_eq_some_iff.mp hq).1
      rw [List.length_append, List.length_singleton] at li
      have ei : i = st.length := by omega
      subst ei
      rw [List.getElem?_append_right (by omega)] at hq hy
      simp [hlen] at hq hy
      rw [← hq, ← hy]
      exact hnew
  obtain ⟨dx, fs, o1, o2⟩ := hS.no
  refine ⟨h.atS hS, ⟨dx, fs, h.ex _ _ (nin_ins hS o1) o1, o2⟩, h.n, h.ex _ _ (nin hS hS.t (fun _ z => by cases z) (fun _ z => by cases z)) hS.t, by rw [h.w, List.map_append]; rfl, ⟨ads ++ [pp], by rw [h.p, List.map_append]; rfl, by simp [hp.2.1], ?_⟩, by rw [h.k, List.map_append]; rfl, by rw [h.s, List.map_append]; rfl, ⟨als ++ [lr], by rw [h.l, List.map_append]; rfl, by simp [hl.2.1], ?_⟩, hS.nd⟩
  · exact key (fun x => .tup (x.ps.map fun n : Nat => V.int (n : Int))) ads pp hp.2.1 (fun _ _ z => by cases z) (fun _ _ z => by cases z) hp.2.2 h1
  · exact key (fun x => .tup (x.ls.map V.str)) als lr hl.2.1 (fun _ _ z => by cases z) (fun _ _ z => by cases z) hl.2.2 h2
end
/-- a value that is told by a relation -/
def EvR (te : TE) (σ : L2.St) (H : Hp) (R : V → Hp → Prop) : Prop := ∀ H1, Ex H H1 → ∀ Q : VK, (∀ v H2, Ex H1 H2 → R v H2 → Q v H2) → te σ H1 Q
def SpR (sp : Sp) (vs : List V) (H : Hp) (R : V → Hp → Prop) : Prop := ∀ H1, Ex H H1 → ∀ Q : VK, (∀ v H2, Ex H1 H2 → R v H2 → Q v H2) → ∀ E : XK, sp vs H1 Q E
section
variable {te : TE} {ta : TA} {σ : L2.St} {H : Hp} {R : V → Hp → Prop} {D : Ends} {tz : TS} {i : Nat} {sp : Sp} {vs dvs : List V} {E : XK}
theorem er_call (h : EvA ta σ H vs) (hs : SpR sp (vs ++ dvs) H R) : EvR (tCall sp dvs E ta) σ H R := fun H1 e Q q => h H1 e _ fun H2 e2 => hs H2 (e.trans e2) Q (fun v H3 e3 r => q v H3 (e2.trans e3) r) E
theorem q_asgR (h : EvR te σ H R) (k : ∀ v H1, Ex H H1 → R v H1 → tz D (σ.set i (some v)) H1) : tSeq (tAsg te (gName i)) tz D σ H := h H (Ex.refl H) _ k
theorem s_asgR (h : EvR te σ H R) (k : ∀ v H1, Ex H H1 → R v H1 → D.nx (σ.set i (some v)) H1) : tAsg te (gName i) D σ H := h H (Ex.refl H) _ k
theorem s_retR (h : EvR te σ H R) (k : ∀ v H1, Ex H H1 → R v H1 → D.rt v H1) : tRet te D σ H := h H (Ex.refl H) _ k
end
theorem sp_joined {H : Hp} {p q : Addr} {a b : List Str} (hp : H p = some (.tup (a.map V.str))) (hq : H q = some (.tup (b.map V.str))) (la : ∀ x ∈ a, IsLet x) (lb : ∀ x ∈ b, IsLet x) (za : a.length ≤ 500) (zb : b.length ≤ 500) : SpR spJoined [.ref p, .ref q] H fun v G => ∃ r, v = .ref r ∧ G r = some (.tup ((joinL a b).map V.str)) := fun H1 e Q k E =>
  ⟨p, q, a, b, rfl, e _ _ hp, e _ _ hq, la, lb, za, zb, fun r G e2 h => k _ G e2 ⟨r, rfl, h⟩⟩
theorem size_take {st : List Nd} {ps : List Nat} {i n : Nat} (h : ps[i]? = some n) : sizeP st (ps.take (i + 1)) = sizeP st (ps.take i) + szOf st n := by
  unfold sizeP
  rw [List.take_add_one, h]
  simp
  omega
theorem let_take {st : List Nd} {w : Str} {ps : List Nat} {i n : Nat} (h : ps[i]? = some n) : letP st w (ps.take (i + 1)) = joinL (letP st w (ps.take i)) (lsOf st n) := by
  unfold letP
  rw [List.take_add_one, h]
  simp
theorem letP_ok {L : List Str} {st : List Nd} {w : Str} (h : StOk L st) (hw : capH w = true → w ∈ L) (ps : List Nat) : (letP st w ps).Nodup ∧ ∀ y ∈ letP st w ps, y ∈ L := by
  refine fold_ok h ps _ ?_
  by_cases c : capH w = true
  · rw [if_pos c]
    exact ⟨by simp, fun y hy => by rw [List.mem_singleton.mp hy]; exact hw c⟩
  · rw [if_neg c]
    exact ⟨List.nodup_nil, fun y hy => by cases hy⟩
theorem cap_test {x : Str} (h : 1 ≤ x.length) : ∃ c r, x.cps.toList = c :: r ∧ capH x = decide (c ∈ capitals.cps.toList) := by
  cases e : x.cps.toList with
  | nil =>
    have : x.length = x.cps.toList.length := by simp [Str.length]
    rw [e] at this
    simp at this
    omega
  | cons c r =>
    refine ⟨c, r, rfl, ?_⟩
    unfold capH
    show headIn (tl capitals) x.cps.toList = _
    rw [e]
    rfl
end K87
-- T5
namespace K87
open PySem PySem.Spec PyProof.Rows L2 Evl KEv TL KDd KSq KSame KTxt KNew KD
/-! _put: its reading -/
section
variable {P : Program} {w : World} {K : PySem.W.Frag} {mg : Str → Option Value} {base : Heap} {σ : L2.St} {H : Hp} {C : Addr} {ta td ty tx : TE} {tt : TT} {tb : TE}
theorem ev_dgetT {a b : Addr} {kvs : List (List Key × V)} {k : List Key} {v : V} (hd : Ev td σ H (.ref a)) (hk : Ev ty σ H (.ref b)) (hb : H b = some (.tup (k.map kV))) (h : H a = some (.dT kvs)) (hv : valV kvs k = some v) : Ev (tDGet td ty) σ H v := fun H1 e Q q =>
  hd H1 e _ fun H2 e2 => hk H2 (e.trans e2) _ fun H3 e3 => ⟨a, v, rfl, by rw [← hv]; exact DGet.t (e3 _ _ (e2 _ _ (e _ _ h))) (e3 _ _ (e2 _ _ (e _ _ hb))), q H3 (e2.trans e3)⟩
theorem q_dputT {D : Ends} {tz : TS} {a b : Addr} {kvs : List (List Key × V)} {k : List Key} {v : V} (hv : Ev tx σ H v) (hd : Ev td σ H (.ref a)) (hk : Ev ty σ H (.ref b)) (hb : H b = some (.tup (k.map kV))) (h : H a = some (.dT kvs)) (hl : kvs.length ≤ 100000) (kk : ∀ H1, Ex H H1 → tz D σ (L2.upd H1 a (.dT (putK kvs k v)))) : tSeq (sDPut td ty tx) tz D σ H :=
  hv H (Ex.refl H) _ fun H1 e1 => hd H1 e1 _ fun H2 e2 => hk H2 (e1.trans e2) _ fun H3 e3 => ⟨a, _, rfl, DPut.t (e3 _ _ (e2 _ _ (e1 _ _ h))) (e3 _ _ (e2 _ _ (e1 _ _ hb))) (Nat.lt_of_le_of_lt hl (by decide)), kk H3 ((e1.trans e2).trans e3)⟩
theorem eu_if {b : Bool} {xs : List V} (h : EvT tt σ H b) (h1 : b = true → EvU ta σ H xs) (h2 : b = false → EvU tb σ H xs) : EvU (tIf tt ta tb) σ H xs := fun H1 e Q q => h H1 e _ fun H2 e2 => by
  cases b with
  | true => exact h1 rfl H2 (e.trans e2) Q fun p H3 hp e3 h3 => q p H3 (fresh_back e2 hp) (e2.trans e3) h3
  | false => exact h2 rfl H2 (e.trans e2) Q fun p H3 hp e3 h3 => q p H3 (fresh_back e2 hp) (e2.trans e3) h3
def spPut (C : Addr) : Sp := fun vs H Q _ => ∃ (a sg pp : Addr) (c : Ce) (tx : List (Key × V)) (st : List Nd) (x kd : Str) (ps : List Nat) (L : List Str), vs = [.ref a, .str x, .ref pp, .str kd] ∧ StoreAt C H a sg c tx st ∧ H pp = some (.tup (ps.map fun n : Nat => V.int (n : Int))) ∧ (∀ i ∈ ps, i < st.length) ∧ ps.length ≤ 10 ∧ LsOk L ∧ StOk L st ∧ 1 ≤ x.length ∧ x.length ≤ 400 ∧ (capH x = true → x ∈ L) ∧ st.length ≤ 50000 ∧
  ∀ H', ExB (cells c) H H' → StoreAt C H' a sg c tx (putS st x ps kd).1 → Q (.int ((putS st x ps kd).2 : Int)) H'
theorem ok_put {f fj : Addr} {fd fdj : FuncData} (F : Fun K "_put" "Terms._put" (sTer 1) f fd) (S : TermC K C) (JO : GenAt P w K mg base 5 "joined" ["first", "second"] spJoined fj fdj) (N : Nm mg) : FnOk P w K mg base CX0 6 f fd ["self", "word", "parts", "kind"] (spPut C) := by
  obtain ⟨tc, gC⟩ := N.CAPITALS
  refine F.ok scPut (fun vs H Q E h => ?_) (fun cdv A outer s H vs Q E hr h => ?_)
  · obtain ⟨a, sg, pp, c, tx, st, x, kd, ps, L, rfl, _⟩ := h
    rfl
  · obtain ⟨a, sg, pp, c, tx, st, x, kd, ps, L, rfl, hS, hpp, hps, hlp, hL, hst, hx1, hx2, hcap, hlen, k⟩ := h
    have hu := hu_of hr
    refine ⟨_, (pss_cons (ps_asg (pe_op (r := rCatT K) op_catT (pe_tup (pa_cons (pv 1) pa_nil)) (pv 2)) (pg_name (i := 4) scPut.nd rfl (.inl rfl))) (pss_cons (ps_if (pt_cmp (pc_din hu (pv 4) (pe_fld (pv 0) (by rfl)))) (pss_one (ps_ret (pe_dget hu (pe_fld (pv 0) (by rfl)) (pv 4) (fun _ _ => rfl)))) pss_nil) (pss_cons (ps_asg (pe_callB (r := rLenS K) call_len_seq (by rfl) N.len PySem.boot_len (pa_cons (pe_fld (pv 0) (by rfl)) pa_nil)) (pg_name (i := 5) scPut.nd rfl (.inl rfl))) (pss_cons (ps_asg (pe_ifExp (pt_cmpR op_isS (pe_ix ix_str (pv 1) pe_int (fun _ _ => rfl)) (pe_glob (v := .str capitals) (by rfl) gC relS) rfl) (pe_tup (pa_cons (pv 1) pa_nil)) (pe_tup pa_nil)) (pg_name (i := 6) scPut.nd rfl (.inl rfl))) (pss_cons (ps_asg pe_int (pg_name (i := 7) scPut.nd rfl (.inl rfl))) (pss_cons (ps_for PassesOwn.never rfl (pi_tup (pv 2)) (pg_name (i := 8) scPut.nd rfl (.inl rfl)) (pss_cons (ps_asg (pe_call JO.F (hr.mono (by decide)) (by rfl) JO.g JO.kp JO.b .nil pass0 (pa_cons (pv 6) (pa_cons (pe_ix (r := rIxL K) ix_list (pe_fld (pv 0) (by rfl)) (pv 8) (fun _ _ => rfl)) pa_nil))) (pg_name (i := 6) scPut.nd rfl (.inl rfl))) (pss_one (ps_aug (i := 7) scPut.nd rfl (.inl rfl) (pe_ix (r := rIxL K) ix_list (pe_fld (pv 0) (by rfl)) (pv 8) (fun _ _ => rfl)) ip_add)))) (pss_cons (ps_dput hu (pe_fld (pv 0) (by rfl)) (pv 4) (pv 5) rfl) (pss_cons (ps_expr (pe_bm PySem.F.plainAttrs_list PySem.F.slot_list_append PySem.F.type_list_append mt_append (pe_fld (pv 0) (by rfl)) (pa_cons (pv 1) pa_nil))) (pss_cons (ps_expr (pe_bm PySem.F.plainAttrs_list PySem.F.slot_list_append PySem.F.type_list_append mt_append (pe_fld (pv 0) (by rfl)) (pa_cons (pv 2) pa_nil))) (pss_cons (ps_expr (pe_bm PySem.F.plainAttrs_list PySem.F.slot_list_append PySem.F.type_list_append mt_append (pe_fld (pv 0) (by rfl)) (pa_cons (pv 3) pa_nil))) (pss_cons (ps_expr (pe_bm PySem.F.plainAttrs_list PySem.F.slot_list_append PySem.F.type_list_append mt_append (pe_fld (pv 0) (by rfl)) (pa_cons (pv 7) pa_nil))) (pss_cons (ps_expr (pe_bm PySem.F.plainAttrs_list PySem.F.slot_list_append PySem.F.type_list_append mt_append (pe_fld (pv 0) (by rfl)) (pa_cons (pv 6) pa_nil))) (pss_one (ps_ret (pv 5))))))))))))))), ?_⟩
    have hkv : (keyN2 ⟨x, ps, kd, 0, []⟩).map kV = V.str x :: ps.map fun n : Nat => V.int (n : Int) := by
      unfold keyN2
      rw [List.map_cons, List.map_map]
      rfl
    refine q_asgU (eu_key (ev_var rfl) (ev_var rfl) hpp (by omega)) fun r H1 hr1 e1 h1 => ?_
    rw [← hkv] at h1
    have hS1 := hS.mono e1
    have hv := val_num x ps st
    have m1 : (("_numbers" : Str), V.ref c.n) ∈ ([("signature", V.ref sg), ("_numbers", .ref c.n), ("_texts", .ref c.t), ("_words", .ref c.w), ("_parts", .ref c.p), ("_kinds", .ref c.k), ("_sizes", .ref c.s), ("_letters", .ref c.l)] : List (Str × V)) := by simp
    have fn : ∀ {G : Hp} {σ : L2.St}, StoreAt C G a sg c tx st → σ[0]? = some (some (.ref a)) → Ev (tFld K (tVar 0) "_numbers") σ G (.ref c.n) := fun h h0 => ev_tfl S (ev_var h0) h.at_ m1 (by decide)
    have t1 := et_test (ev_dinT (k := keyN2 ⟨x, ps, kd, 0, []⟩) (ev_var (i := 4) (σ := [some (.ref a), some (.str x), some (.ref pp), some (.str kd), some (.ref r), none, none, none, none]) rfl) h1 (fn hS1 rfl) hS1.n)
    cases hf : st.findIdx? (isNd x ps) with
    | some i =>
      have e : putS st x ps kd = (st, i) := by unfold putS; rw [hf]
      rw [e] at k
      rw [hf] at hv
      refine q_when (b := true) (et_is t1 (by show (valV (numK st) (Sum.inr x :: ps.map fun n : Nat => Sum.inl (n : Int))).isSome = true; rw [hv]; rfl)) (fun _ H2 e2 => ?_) (fun z => by cases z)
      refine s_ret (ev_dgetT (k := keyN2 ⟨x, ps, kd, 0, []⟩) (fn (hS1.mono e2) rfl) (ev_var rfl) (e2 _ _ h1) (hS1.mono e2).n hv) fun H3 e3 => ?_
      have e13 := (e1.trans e2).trans e3
      exact k H3 (fun b o _ ho => e13 _ _ ho) (hS.mono e13)
    | none =>
      rw [hf] at hv
      have e0 : putS st x ps kd = (st ++ [newNd st x ps kd], st.length) := by unfold putS; rw [hf]
      rw [e0] at k
      refine q_when (b := false) (et_is t1 (by show (valV (numK st) (Sum.inr x :: ps.map fun n : Nat => Sum.inl (n : Int))).isSome = false; rw [hv]; rfl)) (fun z => by cases z) (fun _ H2 e2 => ?_)
      have hS2 := hS1.mono e2
      obtain ⟨mG, mN, mT, mW, mP, mK, mS, mL⟩ := mem_f (c := c) (sg := sg)
      refine q_asg (v := .int (st.length : Int)) (ev_is (ev_len (ev_tfl S (ev_var rfl) hS2.at_ mW (by decide)) (sq_of hS2.w)) (by rw [List.length_map])) fun H3 e3 => ?_
      obtain ⟨c0, r0, ec0, ec1⟩ := cap_test hx1
      refine q_asgU (xs := (if capH x then [x] else []).map V.str) (eu_if (b := capH x) (et_is (et_test (ev_op (ev_op (ev_var rfl) ev_c (rv_ixS (by omega) (by rw [ec0]; exact atI_nat (j := 0) rfl))) ev_c rv_isS)) ec1.symm) (fun b => by rw [if_pos b]; exact eu_tup (ea_cons (ev_var rfl) ea_nil) (by simp)) (fun b => by rw [if_neg (by rw [b]; decide)]; exact eu_tup ea_nil (by simp))) fun l0 H4 hl0 e4 h4 => ?_
      refine q_asg ev_c fun H5 e5 => ?_
      have e25 := (e3.trans e4).trans e5
      have e15 := (e1.trans e2).trans e25
      have hS5 := hS2.mono e25
      obtain ⟨als, al1, al2, al3⟩ := hS5.l
      refine q_forT (xs := ps.map fun n : Nat => V.int (n : Int)) (ev_var rfl) (st_of (e15 _ _ hpp)) (fun i σ' H' => Ex H5 H' ∧ ∃ (lr : Addr) (pv : Option V), σ' = [some (.ref a), some (.str x), some (.ref pp), some (.str kd), some (.ref r), some (.int (st.length : Int)), some (.ref lr), some (.int (sizeP st (ps.take i) : Int)), pv] ∧ H' lr = some (.tup ((letP st x (ps.take i)).map V.str))) (fun H6 e6 => ⟨e6, l0, none, rfl, e6 _ _ (e5 _ _ h4)⟩) (fun i σ' H' _ p => st_of (p.1 _ _ (e15 _ _ hpp))) (fun i v σ' H' hv' p => ?_) (fun σ' H' p => ?_)
      · obtain ⟨e6, lr, pv, rfl, hlr⟩ := p
        rw [List.getElem?_map] at hv'
        obtain ⟨n, hn, rfl⟩ := Option.map_eq_some_iff.mp hv'
        have hn2 := hps n (List.mem_of_getElem? hn)
        obtain ⟨q, hq⟩ : ∃ q, als[n]? = some q := ⟨_, List.getElem?_eq_getElem (by omega)⟩
        obtain ⟨nd, hnd⟩ : ∃ nd, st[n]? = some nd := ⟨_, List.getElem?_eq_getElem hn2⟩
        have hqt := al3 n q nd hq hnd
        have els : lsOf st n = nd.ls := by unfold lsOf; rw [hnd]; rfl
        have esz : szOf st n = nd.sz := by unfold szOf; rw [hnd]; rfl
        have hS6 := hS5.mono e6
        have o1 := letP_ok (w := x) hst hcap (ps.take i)
        have o2 := lsOf_ok hst n
        have z1 := Nat.le_trans (sub_len o1.1 o1.2) hL.len
        have z2 := Nat.le_trans (sub_len o2.1 o2.2) hL.len
        rw [els] at o2 z2
        show tSeq _ _ _ [some (.ref a), some (.str x), some (.ref pp), some (.str kd), some (.ref r), some (.int (st.length : Int)), some (.ref lr), some (.int (sizeP st (ps.take i) : Int)), some (.int (n : Int))] H'
        refine q_asgR (er_call (ea_cons (ev_var rfl) (ea_cons (ev_op (ev_tfl S (ev_var rfl) hS6.at_ mL (by decide)) (ev_var rfl) (rv_ixL (v := .ref q) (sq_of (e6 _ _ al1)) (atI_nat (by rw [List.getElem?_map, hq]; rfl)))) ea_nil)) (sp_joined hlr (e6 _ _ hqt) (fun y hy => hL.ok y (o1.2 y hy)) (fun y hy => hL.ok y (o2.2 y hy)) z1 z2)) fun v H7 e7 hv7 => ?_
        obtain ⟨lr2, rfl, hlr2⟩ := hv7
        refine s_aug (a := (sizeP st (ps.take i) : Int)) (b := (szOf st n : Int)) rfl (ev_op (ev_tfl S (ev_var rfl) (hS6.mono e7).at_ mS (by decide)) (ev_var rfl) (rv_ixL (sq_of (hS6.mono e7).s) (atI_nat (by rw [List.getElem?_map, hnd, esz]; rfl)))) fun H8 e8 => ?_
        refine ⟨(e6.trans e7).trans e8, lr2, some (.int (n : Int)), ?_, ?_⟩
        · rw [size_take hn]
          rfl
        · rw [let_take hn, els]
          exact e8 _ _ hlr2
      · obtain ⟨e6, lr, pv, rfl, hlr⟩ := p
        rw [List.length_map, List.take_length] at hlr ⊢
        have hS6 := hS5.mono e6
        have e16 := e15.trans e6
        obtain ⟨als, al⟩ := hS6.l
        obtain ⟨ads, ap⟩ := hS6.p
        have B0 : Cs c H' H' (.dT (numK st)) (.lst (st.map fun x => V.str x.w)) (.lst (ads.map V.ref)) (.lst (st.map fun x => V.str x.kd)) (.lst (st.map fun x => V.int (x.sz : Int))) (.lst (als.map V.ref)) := ⟨fun b o _ h => h, hS6.n, hS6.w, ap.1, hS6.k, hS6.s, al.1⟩
        have pn : putK (numK st) (keyN2 ⟨x, ps, kd, 0, []⟩) (.int (st.length : Int)) = numK (st ++ [newNd st x ps kd]) := put_num (x := newNd st x ps kd) hf
        have hr6 : H' r = some (.tup ((keyN2 ⟨x, ps, kd, 0, []⟩).map kV)) := e6 _ _ (e25 _ _ (e2 _ _ h1))
        refine q_dputT (k := keyN2 ⟨x, ps, kd, 0, []⟩) (ev_var rfl) (ev_tfl S (ev_var rfl) hS6.at_ mN (by decide)) (ev_var rfl) hr6 hS6.n (by unfold numK; rw [List.length_map, List.length_zipIdx]; omega) fun G1 g1 => ?_
        rw [pn]
        have B1 := B0.upn (u := .dT (numK (st ++ [newNd st x ps kd]))) hS6.nd g1
        refine q_app B1.w (ev_tfl S (ev_var rfl) (B1.atS hS6) mW (by decide)) (ev_var rfl) (by rw [List.length_map]; omega) fun G2 g2 => ?_
        have B2 := B1.upw (u := .lst ((st.map fun x => V.str x.w) ++ [.str x])) hS6.nd g2
        refine q_app B2.p (ev_tfl S (ev_var rfl) (B2.atS hS6) mP (by decide)) (ev_var rfl) (by rw [List.length_map, ap.2.1]; omega) fun G3 g3 => ?_
        have B3 := B2.upp (u := .lst (ads.map V.ref ++ [.ref pp])) hS6.nd g3
        refine q_app B3.k (ev_tfl S (ev_var rfl) (B3.atS hS6) mK (by decide)) (ev_var rfl) (by rw [List.length_map]; omega) fun G4 g4 => ?_
        have B4 := B3.upk (u := .lst ((st.map fun x => V.str x.kd) ++ [.str kd])) hS6.nd g4
        refine q_app B4.s (ev_tfl S (ev_var rfl) (B4.atS hS6) mS (by decide)) (ev_var rfl) (by rw [List.length_map]; omega) fun G5 g5 => ?_
        have B5 := B4.ups (u := .lst ((st.map fun x => V.int (x.sz : Int)) ++ [.int (sizeP st ps : Int)])) hS6.nd g5
        refine q_app B5.l (ev_tfl S (ev_var rfl) (B5.atS hS6) mL (by decide)) (ev_var rfl) (by rw [List.length_map, al.2.1]; omega) fun G6 g6 => ?_
        have B6 := B5.upl (u := .lst (als.map V.ref ++ [.ref lr])) hS6.nd g6
        refine s_ret (ev_var rfl) fun G7 g7 => ?_
        have B7 := B6.go g7
        have hpp6 : H' pp = some (.tup (ps.map fun n : Nat => V.int (n : Int))) := e16 _ _ hpp
        exact k G7 (fun b o hb ho => B7.ex b o hb (e16 _ _ ho)) (B7.store (x := newNd st x ps kd) hS6 ap al (B7.ex _ _ (nin_tup hS6 hpp6) hpp6) (B7.ex _ _ (nin_tup hS6 hlr) hlr))
end
end K87
-- T6
namespace K87
open PySem PySem.Spec PyProof.Rows L2 Evl KEv TL KDd KSq KSame KTxt KNew KD
/-! letter, make, size_of, letters_of -/
def tDead : TS := fun _ _ _ => False
theorem ps_dead {X : Cx} {st : Stmt} : PS X st tDead := ⟨fun _ _ _ _ _ _ h => h.elim⟩
/-- a method, proved -/
structure MethAt (P : Program) (w : World) (K : PySem.W.Frag) (mg : Str → Option Value) (base : Heap) (CX : CXT) (n : Nat) (C : Addr) (m : Str) (ps : List Str) (dvs : List V) (sp : Sp) (f : Addr) (fd : FuncData) (ds : List Value) : Prop where
  m : Meth K C m f
  F : FnOk P w K mg base CX n f fd ps sp
  b : Binds K fd ps ds
  v : Vals dvs ds
structure NmE (mg : Str → Option Value) : Prop where
  enumerate : mg "enumerate" = none
  reversed : mg "reversed" = none
  any : mg "any" = none
  sorted : mg "sorted" = none
  sum : mg "sum" = none
structure Wd (L : List Str) (st : List Nd) : Prop where
  ls : LsOk L
  ok : StOk L st
  len : st.length ≤ 50000
theorem put_len {st : List Nd} {w : Str} {ps : List Nat} {kd : Str} : (putS st w ps kd).1.length ≤ st.length + 1 := by
  unfold putS
  cases st.findIdx? (isNd w ps) with
  | some i => exact Nat.le_succ _
  | none => simp
theorem Wd.put {L : List Str} {st : List Nd} {w : Str} {ps : List Nat} {kd : Str} (h : Wd L st) (hw : capH w = true → w ∈ L) (hl : st.length < 50000) : Wd L (putS st w ps kd).1 := ⟨h.ls, put_ok h.ok hw, by have := put_len (st := st) (w := w) (ps := ps) (kd := kd); omega⟩
/-- arguments told by a relation -/
def EvRA (ta : TA) (σ : L2.St) (H : Hp) (R : List V → Hp → Prop) : Prop := ∀ H1, Ex H H1 → ∀ Q : List V → Hp → Prop, (∀ vs H2, Ex H1 H2 → R vs H2 → Q vs H2) → ta σ H1 Q
/-- a call that changes the cells F -/
def EvP (F : List Addr) (te : TE) (σ : L2.St) (H : Hp) (R : V → Hp → Prop) : Prop := ∀ H1, Ex H H1 → ∀ Q : VK, (∀ v H2, ExB F H1 H2 → R v H2 → Q v H2) → te σ H1 Q
section
variable {P : Program} {w : World} {K : PySem.W.Frag} {mg : Str → Option Value} {base : Heap} {σ : L2.St} {H G : Hp} {C CS a sg : Addr} {te ta tb tc : TE} {t : TA} {c : Ce} {tx : List (Key × V)} {st : List Nd} {E : XK} {D : Ends} {tz : TS} {i : Nat} {F : List Addr} {R : V → Hp → Prop} {ec : EK → Addr}
theorem q_asgP (h : EvP F te σ H R) (k : ∀ v H1, ExB F H H1 → R v H1 → tz D (σ.set i (some v)) H1) : tSeq (tAsg te (gName i)) tz D σ H := h H (Ex.refl H) _ k
theorem s_asgP (h : EvP F te σ H R) (k : ∀ v H1, ExB F H H1 → R v H1 → D.nx (σ.set i (some v)) H1) : tAsg te (gName i) D σ H := h H (Ex.refl H) _ k
theorem s_retP (h : EvP F te σ H R) (k : ∀ v H1, ExB F H H1 → R v H1 → D.rt v H1) : tRet te D σ H := h H (Ex.refl H) _ k
theorem era_put {x kd : Str} {xs : List V} (h1 : Ev ta σ H (.str x)) (h2 : EvU tb σ H xs) (h3 : ∀ H1, Ex H H1 → Ev tc σ H1 (.str kd)) : EvRA (tCons ta (tCons tb (tCons tc tNil))) σ H fun vs G => ∃ pp, vs = [.str x, .ref pp, .str kd] ∧ G pp = some (.tup xs) := fun H1 e Q q =>
  h1 H1 e _ fun H2 e2 => h2 H2 (e.trans e2) _ fun pp H3 hp e3 h => h3 H3 ((e.trans e2).trans e3) H3 (Ex.refl H3) _ fun H4 e4 => q _ H4 ((e2.trans e3).trans e4) ⟨pp, rfl, e4 _ _ h⟩
/-- self._put(x, parts, kind) -/
theorem ep_put {L : List Str} {x kd : Str} {ps : List Nat} (hS : StoreAt C H a sg c tx st) (W : Wd L st) (ha : Ev ta σ H (.ref a)) (h : EvRA t σ H fun vs G => ∃ pp, vs = [.str x, .ref pp, .str kd] ∧ G pp = some (.tup (ps.map fun n : Nat => V.int (n : Int)))) (hp : ∀ i ∈ ps, i < st.length) (hl : ps.length ≤ 10) (hx : 1 ≤ x.length ∧ x.length ≤ 400) (hc : capH x = true → x ∈ L) :
    EvP (cells c) (tMeth C "_put" (spPut C) [] E ta t) σ H fun v G => v = .int ((putS st x ps kd).2 : Int) ∧ StoreAt C G a sg c tx (putS st x ps kd).1 := fun H1 e Q q =>
  ha H1 e _ fun H2 e2 => by
    obtain ⟨dx, fs, o1, o2⟩ := hS.no
    refine ⟨a, dx, fs, rfl, e2 _ _ (e _ _ o1), o2 _ (by decide), h H2 (e.trans e2) _ fun vs H3 e3 hvs => ?_⟩
    obtain ⟨pp, rfl, hpp⟩ := hvs
    have e13 := (e.trans e2).trans e3
    exact ⟨a, sg, pp, c, tx, st, x, kd, ps, L, rfl, hS.mono e13, hpp, hp, hl, W.ls, W.ok, hx.1, hx.2, hc, W.len, fun H4 x4 h4 => q _ H4 (fun b o hb ho => x4 b o hb ((e2.trans e3) _ _ ho)) ⟨rfl, h4⟩⟩
theorem ev_sow2 {x : Str} {n : Int} {sorts : List Row} {signs : List Sgn} {pc ps pa pr : Addr} {sgn : List (Sgn × Addr)} {tw tn : TE} (hS : SigAt CS G a sorts signs pc ps pa pr sgn) (ha : Ev ta σ G (.ref a)) (hw : Ev tw σ G (.str x)) (hn : Ev tn σ G (.int n)) (hl : x.length ≤ 100000) :
    Ev (tMeth CS "sort_of_word" (spSortW CS) [] E ta (tCons tw (tCons tn tNil))) σ G (oV (wordSort sorts signs x n)) := fun H1 e Q q =>
  ha H1 e _ fun H2 e2 => by
    obtain ⟨dx, fs, h1, h2⟩ := hS.no
    obtain ⟨dx', fs', h3, h4⟩ := hS.at_
    refine ⟨a, dx, fs, rfl, e2 _ _ (e _ _ h1), h2 _ (by decide), hw H2 (e.trans e2) _ fun H3 e3 => hn H3 ((e.trans e2).trans e3) _ fun H4 e4 => ?_⟩
    have e14 := ((e.trans e2).trans e3).trans e4
    refine ⟨a, x, n, ps, pr, sorts, sgn, rfl, ⟨dx', fs', e14 _ _ h3, fun m hm => h4 m ?_⟩, e14 _ _ hS.ps, e14 _ _ hS.pr, hl, fun H5 e5 => ?_⟩
    · simp only [List.mem_cons, List.not_mem_nil, or_false] at hm ⊢
      rcases hm with rfl | rfl
      · exact .inr (.inl rfl)
      · exact .inr (.inr (.inr rfl))
    · rw [hS.es]
      exact q H5 (((e2.trans e3).trans e4).trans e5)
/-- a signature is no cell of a store -/
theorem SigAt.keep {sorts : List Row} {signs : List Sgn} {pc ps pa pr : Addr} {sgn : List (Sgn × Addr)} {b : Addr} (h : SigAt CS H b sorts signs pc ps pa pr sgn) (hS : StoreAt C H a sg c tx st) (e : ExB (cells c) H G) : SigAt CS G b sorts signs pc ps pa pr sgn := by
  have kk : ∀ {q : Addr} {kvs : List (Key × V)}, H q = some (.dK kvs) → G q = some (.dK kvs) := fun {q kvs} hq => e _ _ (nin hS hq (fun _ z => by cases z) (fun _ z => by cases z)) hq
  obtain ⟨dx, fs, h1, h2⟩ := h.no
  obtain ⟨dx', fs', h3, h4⟩ := h.at_
  exact ⟨⟨dx', fs', e _ _ (nin_ins hS h3) h3, h4⟩, ⟨dx, fs, e _ _ (nin_ins hS h1) h1, h2⟩, kk h.pc, kk h.ps, kk h.pa, kk h.pr, h.es, fun p hp => e _ _ (nin_tup hS (h.tup p hp)) (h.tup p hp)⟩
theorem sig_find {sorts : List Row} {signs : List Sgn} {pc ps pa pr : Addr} {sgn : List (Sgn × Addr)} {x : Str} {g : Sgn} (h : SigAt CS H sg sorts signs pc ps pa pr sgn) (hg : signs.find? (fun g => decide (g.1 = x)) = some g) : ∃ q, valV (argK sgn) (Sum.inr x) = some (.ref q) ∧ valV (resK sgn) (Sum.inr x) = some (.str g.2.2) ∧ H q = some (.tup (g.2.1.map V.str)) := by
  rw [← h.es, find_sg] at hg
  obtain ⟨p, hp, rfl⟩ := Option.map_eq_some_iff.mp hg
  refine ⟨p.2, ?_, ?_, h.tup p (List.mem_of_find?_eq_some hp)⟩
  · have : valV (argK sgn) (Sum.inr x) = (sgn.find? fun p => decide (p.1.1 = x)).map fun p => V.ref p.2 := dkv_val
    rw [this, hp]
    rfl
  · have : valV (resK sgn) (Sum.inr x) = (sgn.find? fun p => decide (p.1.1 = x)).map fun p => V.str p.1.2.2 := dkv_val
    rw [this, hp]
    rfl
theorem ev_look {m fld : Str} {sorts : List Row} {signs : List Sgn} {pc ps pa pr d : Addr} {sgn : List (Sgn × Addr)} {x : Str} {kvs : List (Key × V)} {v : V} {tw : TE} (h : SigAt CS H a sorts signs pc ps pa pr sgn) (hm : m ∈ (["_add_sort", "_add_sign", "capital", "arguments", "result", "is_bare", "sort_of_word", "fault", "check"] : List Str)) (hf : (fld, V.ref d) ∈ ([("_capitals", V.ref pc), ("_sorts", .ref ps), ("_arguments", .ref pa), ("_results", .ref pr)] : List (Str × V)))
    (hd : H d = some (.dK kvs)) (hv : valV kvs (Sum.inr x) = some v) (ha : Ev ta σ H (.ref a)) (hw : Ev tw σ H (.str x)) : Ev (tMeth CS m (spLook ec CS fld) [] E ta (tCons tw tNil)) σ H v := fun H1 e Q q =>
  ha H1 e _ fun H2 e2 => by
    obtain ⟨dx, fs, h1, h2⟩ := h.no
    obtain ⟨dx', fs', h3, h4⟩ := h.at_
    refine ⟨a, dx, fs, rfl, e2 _ _ (e _ _ h1), h2 _ hm, hw H2 (e.trans e2) _ fun H3 e3 => ?_⟩
    have e13 := (e.trans e2).trans e3
    refine ⟨a, x, d, kvs, rfl, ⟨dx', fs', e13 _ _ h3, fun m hm => h4 m (by rw [List.mem_singleton.mp hm]; exact hf)⟩, e13 _ _ hd, fun z => (by rw [hv] at z; cases z), fun u z => ?_⟩
    rw [hv] at z
    obtain rfl := Option.some.inj z
    exact fun H4 e4 => q H4 ((e2.trans e3).trans e4)
def spLetter (C CS : Addr) : Sp := fun vs H Q _ => ∃ (a sg : Addr) (c : Ce) (tx : List (Key × V)) (st : List Nd) (x kd : Str) (L : List Str) (sorts : List Row) (signs : List Sgn) (pc ps pa pr : Addr) (sgn : List (Sgn × Addr)), vs = [.ref a, .str x] ∧ StoreAt C H a sg c tx st ∧ SigAt CS H sg sorts signs pc ps pa pr sgn ∧ letterB (tl x) 300 = true ∧ wordSort sorts signs x 300 = some kd ∧ Wd L st ∧ x ∈ L ∧
  ∀ H', ExB (cells c) H H' → StoreAt C H' a sg c tx (putS st x [] kd).1 → Q (.int ((putS st x [] kd).2 : Int)) H'
theorem scLet : FnScope ["self", "text", "kind"] ["self", "text"] (defScope (sTer 2)) := ⟨rfl, rfl, rfl, by decide +kernel, rfl, by decide +kernel, by decide +kernel⟩
theorem ok_letter {f fl f7 fp : Addr} {fd fdl fd7 fdp : FuncData} {d7 dp : List Value} (F0 : Fun K "letter" "Terms.letter" (sTer 2) f fd) (S : TermC K C) (SS : SigC K CS) (LE : LetAt P w K mg base fl fdl) (W2 : MethAt P w K mg base CX0 2 CS "sort_of_word" ["self", "word", "digits"] [] (spSortW CS) f7 fd7 d7) (PT : MethAt P w K mg base CX0 6 C "_put" ["self", "word", "parts", "kind"] [] (spPut C) fp fdp dp) :
    FnOk P w K mg base CX0 7 f fd ["self", "text"] (spLetter C CS) := by
  refine F0.ok scLet (fun vs H Q E h => ?_) (fun cdv A outer s H vs Q E hr h => ?_)
  · obtain ⟨a, sg, c, tx, st, x, kd, L, sorts, signs, pc, ps, pa, pr, sgn, rfl, _⟩ := h
    rfl
  · obtain ⟨a, sg, c, tx, st, x, kd, L, sorts, signs, pc, ps, pa, pr, sgn, rfl, hS, hG, hx, hw, W, hL, k⟩ := h
    have hi := W.ls.ok x hL
    have hz := hi.pos
    obtain ⟨mG, mN, mT, mW, mP, mK, mS, mL⟩ := mem_f (c := c) (sg := sg)
    refine ⟨_, (pss_cons (ps_asg pe_non (pg_name (i := 2) scLet.nd rfl (.inl rfl))) (pss_cons (ps_if (pt_val (pe_call LE.F (hr.mono (by decide)) (by rfl) LE.g LE.kp (let_b2 LE.D) .nil pass0 (pa_cons (pv 1) (pa_cons pe_int pa_nil)))) (pss_one (ps_asg (pe_meth (pe_fld (pv 0) (by rfl)) SS.cl W2.m W2.F (hr.mono (by decide)) W2.b W2.v pass0 (pa_cons (pv 1) (pa_cons pe_int pa_nil))) (pg_name (i := 2) scLet.nd rfl (.inl rfl)))) pss_nil) (pss_cons (ps_if (pt_cmpR op_isNon (pv 2) pe_non (nomark _)) (pss_one ps_dead) pss_nil) (pss_one (ps_ret (pe_meth (pv 0) S.cl PT.m PT.F (hr.mono (by decide)) PT.b PT.v pass0 (pa_cons (pv 1) (pa_cons (pe_tup pa_nil) (pa_cons (pv 2) pa_nil))))))))), ?_⟩
    refine q_asg ev_c fun H1 e1 => ?_
    refine q_when (b := true) (et_B (ev_is (ev_call (z := .bl (letterB (tl x) 300)) (ea_cons (ev_var rfl) (ea_cons ev_c ea_nil)) fun H1 _ Q q E => ⟨x, 300, rfl, by omega, fun H2 e2 => q H2 e2⟩) (by rw [hx]))) (fun _ H2 e2 => ?_) (fun z => by cases z)
    have e12 := e1.trans e2
    refine s_asg (v := .str kd) (ev_is (ev_sow2 (hG.mono e12) (ev_tfl S (ev_var rfl) (hS.mono e12).at_ mG (by decide)) (ev_var rfl) ev_c (by omega)) (by rw [hw]; rfl)) fun H3 e3 => ?_
    refine q_when (b := false) (et_is (et_test (ev_op (ev_var rfl) ev_c rv_isN)) rfl) (fun z => by cases z) (fun _ H4 e4 => ?_)
    have e14 := (e12.trans e3).trans e4
    refine s_retP (ep_put (ps := []) (hS.mono e14) W (ev_var rfl) (era_put (ev_var rfl) (eu_tup ea_nil (by decide)) fun H5 e5 => ev_var rfl) (fun i hi => by cases hi) (by decide) ⟨by omega, hz.2⟩ (fun _ => hL)) fun v H5 x5 hv => ?_
    obtain ⟨rfl, h5⟩ := hv
    exact k H5 (fun b o hb ho => x5 b o hb (e14 _ _ ho)) h5
def spMake (C CS : Addr) : Sp := fun vs H Q _ => ∃ (a sg l : Addr) (c : Ce) (tx : List (Key × V)) (st : List Nd) (g : Sgn) (qs : List Nat) (L : List Str) (sorts : List Row) (signs : List Sgn) (pc ps pa pr : Addr) (sgn : List (Sgn × Addr)), vs = [.ref a, .str g.1, .ref l] ∧ StoreAt C H a sg c tx st ∧ SigAt CS H sg sorts signs pc ps pa pr sgn ∧ H l = some (.lst (qs.map fun n : Nat => V.int (n : Int))) ∧ signs.find? (fun r => decide (r.1 = g.1)) = some g ∧ Wd L st ∧
  qs.length = g.2.1.length ∧ qs.length ≤ 10 ∧ (∀ (i n : Nat) (u : Str), qs[i]? = some n → g.2.1[i]? = some u → ∃ x, st[n]? = some x ∧ x.kd = u) ∧ 1 ≤ g.1.length ∧ g.1.length ≤ 400 ∧ capH g.1 = false ∧
  ∀ H', ExB (cells c) H H' → StoreAt C H' a sg c tx (putS st g.1 qs g.2.2).1 → Q (.int ((putS st g.1 qs g.2.2).2 : Int)) H'
theorem eu_tupN {xs : List V} (h : EvL ta σ H xs) : EvU (tCB (rTupSq K) (tCons ta tNil)) σ H xs := fun H1 e Q q => h H1 e _ fun p H2 hp e2 h2 => ⟨p, xs, rfl, .inl ⟨sq_of h2, fun l hl => q l _ (fresh_back e2 hl) (e2.trans (Ex.new hl)) upd_same⟩⟩
theorem ev_lenT2 {p : Addr} {xs : List V} (ha : Ev ta σ H (.ref p)) (h : H p = some (.tup xs)) : Ev (tCB (rLenS K) (tCons ta tNil)) σ H (.int (xs.length : Int)) := fun H1 e Q q =>
  ha H1 e _ fun H2 e2 => ⟨p, xs, rfl, .inr (st_of (e2 _ _ (e _ _ h))), q H2 e2⟩
theorem scMake : FnScope ["self", "sign", "parts", "wanted", "place", "part"] ["self", "sign", "parts"] (defScope (sTer 3)) := ⟨rfl, rfl, rfl, by decide +kernel, rfl, by decide +kernel, by decide +kernel⟩
theorem ok_make {f fa fr fp : Addr} {fd fda fdr fdp : FuncData} {da dr dp : List Value} (F0 : Fun K "make" "Terms.make" (sTer 3) f fd) (S : TermC K C) (SS : SigC K CS) (N : Nm mg) (M : NmS mg) (ME : NmE mg) (AR : MethAt P w K mg base (L2N.CX P w) 1 CS "arguments" ["self", "sign"] [] (spLook ec CS "_arguments") fa fda da) (RS : MethAt P w K mg base (L2N.CX P w) 1 CS "result" ["self", "sign"] [] (spLook ec CS "_results") fr fdr dr) (PT : MethAt P w K mg base CX0 6 C "_put" ["self", "word", "parts", "kind"] [] (spPut C) fp fdp dp) :
    FnOk P w K mg base CX0 7 f fd ["self", "sign", "parts"] (spMake C CS) := by
  refine F0.ok scMake (fun vs H Q E h => ?_) (fun cdv A outer s H vs Q E hr h => ?_)
  · obtain ⟨a, sg, l, c, tx, st, g, qs, L, sorts, signs, pc, ps, pa, pr, sgn, rfl, _⟩ := h
    rfl
  · obtain ⟨a, sg, l, c, tx, st, g, qs, L, sorts, signs, pc, ps, pa, pr, sgn, rfl, hS, hG, hl, hg, W, z1, z2, hk, x1, x2, hcap, k⟩ := h
    obtain ⟨mG, mN, mT, mW, mP, mK, mS, mL⟩ := mem_f (c := c) (sg := sg)
    obtain ⟨q, v1, v2, hq⟩ := sig_find hG hg
    refine ⟨_, (pss_cons (ps_asg (pe_meth (pe_fld (pv 0) (by rfl)) SS.cl AR.m AR.F (hr.mono (by decide)) AR.b AR.v passF (pa_cons (pv 1) pa_nil)) (pg_name (i := 3) scMake.nd rfl (.inl rfl))) (pss_cons (ps_if (pt_cmpR op_ne (pe_callB (r := rLenS K) call_len_seq (by rfl) N.len PySem.boot_len (pa_cons (pv 2) pa_nil)) (pe_callB (r := rLenS K) call_len_seq (by rfl) N.len PySem.boot_len (pa_cons (pv 3) pa_nil)) (nomark _)) (pss_one ps_dead) pss_nil) (pss_cons (ps_for PassesOwn.never rfl (pi_enum (by rfl) ME.enumerate (pa_cons (pv 2) pa_nil)) (pg_tup rfl (pgs_cons (pg_name (i := 4) scMake.nd rfl (.inl rfl)) (pgs_cons (pg_name (i := 5) scMake.nd rfl (.inl rfl)) pgs_nil))) (pss_one (ps_if (pt_cmpR op_ne (pe_ix (r := rIxL K) ix_list (pe_fld (pv 0) (by rfl)) (pv 5) (fun _ _ => rfl)) (pe_ix (r := rIxT K) ix_tup (pv 3) (pv 4) (fun _ _ => rfl)) (nomark _)) (pss_one ps_dead) pss_nil))) (pss_one (ps_ret (pe_meth (pv 0) S.cl PT.m PT.F (hr.mono (by decide)) PT.b PT.v pass0 (pa_cons (pv 1) (pa_cons (pe_callTy (T := "tuple") (call_tupK (K := K) rfl) (by rfl) M.tuple (by decide +kernel) (pa_cons (pv 2) pa_nil)) (pa_cons (pe_meth (pe_fld (pv 0) (by rfl)) SS.cl RS.m RS.F (hr.mono (by decide)) RS.b RS.v passF (pa_cons (pv 1) pa_nil)) pa_nil))))))))), ?_⟩
    refine q_asg (ev_look hG (by decide) (by simp) hG.pa v1 (ev_tfl S (ev_var rfl) hS.at_ mG (by decide)) (ev_var rfl)) fun H1 e1 => ?_
    refine q_when (b := false) (et_is (et_test (ev_op (ev_len (ev_var rfl) (sq_of (e1 _ _ hl))) (ev_lenT2 (ev_var rfl) (e1 _ _ hq)) (rv_ne rfl))) (by rw [List.length_map, List.length_map, z1]; simp)) (fun z => by cases z) (fun _ H2 e2 => ?_)
    have e12 := e1.trans e2
    have hS2 := hS.mono e12
    refine q_forEnum (xs := qs.map fun n : Nat => V.int (n : Int)) (ev_var rfl) (sq_of (e12 _ _ hl)) (fun i σ' H' => Ex H2 H' ∧ ∃ u1 u2, σ' = [some (.ref a), some (.str g.1), some (.ref l), some (.ref q), u1, u2]) (fun H3 e3 => ⟨e3, none, none, rfl⟩) (fun i σ' H' p => sq_of (p.1 _ _ (e12 _ _ hl))) (fun i v σ' H0 H' hv p e0 => ?_) (fun σ' H' p => ?_)
    · obtain ⟨e3, u1, u2, rfl⟩ := p
      have e3 := e3.trans e0
      rw [List.getElem?_map] at hv
      obtain ⟨n, hn, rfl⟩ := Option.map_eq_some_iff.mp hv
      obtain ⟨u, hu⟩ : ∃ u, g.2.1[i]? = some u := ⟨_, List.getElem?_eq_getElem (by have := (List.getElem?_eq_some_iff.mp hn).1; omega)⟩
      obtain ⟨y, hy, ky⟩ := hk i n u hn hu
      have hS3 := hS2.mono e3
      show tIfS _ _ _ _ [some (.ref a), some (.str g.1), some (.ref l), some (.ref q), some (.int (i : Int)), some (.int (n : Int))] H'
      refine s_when (b := false) (et_is (et_test (ev_op (ev_op (ev_tfl S (ev_var rfl) hS3.at_ mK (by decide)) (ev_var rfl) (rv_ixL (v := .str u) (sq_of hS3.k) (atI_nat (by rw [List.getElem?_map, hy, ← ky]; rfl)))) (ev_op (ev_var rfl) (ev_var rfl) (rv_ixT (v := .str u) (st_of (e3 _ _ (e12 _ _ hq))) (atI_nat (by rw [List.getElem?_map, hu]; rfl)))) (rv_ne rfl))) (by simp)) (fun z => by cases z) (fun _ H4 e4 => ⟨e3.trans e4, _, _, rfl⟩)
    · obtain ⟨e3, u1, u2, rfl⟩ := p
      have e13 := e12.trans e3
      refine s_retP (ep_put (ps := qs) (hS2.mono e3) W (ev_var rfl) (era_put (ev_var rfl) (eu_tupL (ev_var rfl) (sq_of (e13 _ _ hl))) fun H5 e5 => ev_look (hG.mono (e13.trans e5)) (by decide) (by simp) (hG.mono (e13.trans e5)).pr v2 (ev_tfl S (ev_var rfl) (hS.mono (e13.trans e5)).at_ mG (by decide)) (ev_var rfl)) (fun n hn => ?_) z2 ⟨x1, x2⟩ (fun z => by rw [hcap] at z; cases z)) fun v H5 x5 hv => ?_
      · obtain ⟨i, hi⟩ := List.getElem?_of_mem hn
        obtain ⟨u, hu⟩ : ∃ u, g.2.1[i]? = some u := ⟨_, List.getElem?_eq_getElem (by have := (List.getElem?_eq_some_iff.mp hi).1; omega)⟩
        obtain ⟨y, hy, _⟩ := hk i n u hi hu
        exact (List.getElem?_eq_some_iff.mp hy).1
      · obtain ⟨rfl, h5⟩ := hv
        exact k H5 (fun b o hb ho => x5 b o hb (e13 _ _ ho)) h5
def spSize (C : Addr) : Sp := fun vs H Q _ => ∃ (a sg : Addr) (c : Ce) (tx : List (Key × V)) (st : List Nd) (n : Nat) (x : Nd), vs = [.ref a, .int (n : Int)] ∧ StoreAt C H a sg c tx st ∧ st[n]? = some x ∧ RetV (.int (x.sz : Int)) H Q
theorem scSize : FnScope ["self", "term"] ["self", "term"] (defScope (sTer 9)) := ⟨rfl, rfl, rfl, by decide +kernel, rfl, by decide +kernel, by decide +kernel⟩
theorem ok_size {f : Addr} {fd : FuncData} (F0 : Fun K "size_of" "Terms.size_of" (sTer 9) f fd) (S : TermC K C) : FnOk P w K mg base CX0 1 f fd ["self", "term"] (spSize C) := by
  refine F0.ok scSize (fun vs H Q E h => ?_) (fun cdv A outer s H vs Q E hr h => ?_)
  · obtain ⟨a, sg, c, tx, st, n, x, rfl, _⟩ := h
    rfl
  · obtain ⟨a, sg, c, tx, st, n, x, rfl, hS, hx, k⟩ := h
    obtain ⟨mG, mN, mT, mW, mP, mK, mS, mL⟩ := mem_f (c := c) (sg := sg)
    refine ⟨_, (pss_one (ps_ret (pe_ix (r := rIxL K) ix_list (pe_fld (pv 0) (by rfl)) (pv 1) (fun _ _ => rfl)))), ?_⟩
    exact s_ret (ev_op (ev_tfl S (ev_var rfl) hS.at_ mS (by decide)) (ev_var rfl) (rv_ixL (sq_of hS.s) (atI_nat (by rw [List.getElem?_map, hx]; rfl)))) k
def spLetters (C : Addr) : Sp := fun vs H Q _ => ∃ (a sg : Addr) (c : Ce) (tx : List (Key × V)) (st : List Nd) (n : Nat) (x : Nd), vs = [.ref a, .int (n : Int)] ∧ StoreAt C H a sg c tx st ∧ st[n]? = some x ∧ ∀ p H', Ex H H' → H' p = some (.tup (x.ls.map V.str)) → Q (.ref p) H'
theorem scLets : FnScope ["self", "term"] ["self", "term"] (defScope (sTer 10)) := ⟨rfl, rfl, rfl, by decide +kernel, rfl, by decide +kernel, by decide +kernel⟩
theorem ok_letters {f : Addr} {fd : FuncData} (F0 : Fun K "letters_of" "Terms.letters_of" (sTer 10) f fd) (S : TermC K C) : FnOk P w K mg base CX0 1 f fd ["self", "term"] (spLetters C) := by
  refine F0.ok scLets (fun vs H Q E h => ?_) (fun cdv A outer s H vs Q E hr h => ?_)
  · obtain ⟨a, sg, c, tx, st, n, x, rfl, _⟩ := h
    rfl
  · obtain ⟨a, sg, c, tx, st, n, x, rfl, hS, hx, k⟩ := h
    obtain ⟨mG, mN, mT, mW, mP, mK, mS, mL⟩ := mem_f (c := c) (sg := sg)
    obtain ⟨als, l1, l2, l3⟩ := hS.l
    obtain ⟨q, hq⟩ : ∃ q, als[n]? = some q := ⟨_, List.getElem?_eq_getElem (by have := (List.getElem?_eq_some_iff.mp hx).1; omega)⟩
    refine ⟨_, (pss_one (ps_ret (pe_ix (r := rIxL K) ix_list (pe_fld (pv 0) (by rfl)) (pv 1) (fun _ _ => rfl)))), ?_⟩
    exact s_ret (ev_op (ev_tfl S (ev_var rfl) hS.at_ mL (by decide)) (ev_var rfl) (rv_ixL (v := .ref q) (sq_of l1) (atI_nat (by rw [List.getElem?_map, hq]; rfl)))) fun H1 e1 => k q H1 e1 (e1 _ _ (l3 n q x hq hx))
end
end K87
-- T7
namespace K87
open PySem PySem.Spec PyProof.Rows L2 Evl KEv TL KDd KSq KSame KTxt KNew KRvT KD
/-! first_letters_of -/
/-- a dict of numbers that have been met -/
def ikv (ns : List Nat) : List (Key × V) := ns.map fun n : Nat => (Sum.inl (n : Int), V.bl true)
theorem val_ikv (ns : List Nat) (n : Nat) : valV (ikv ns) (Sum.inl (n : Int)) = if n ∈ ns then some (.bl true) else none := by
  induction ns with
  | nil => rfl
  | cons m ns ih =>
    by_cases e : m = n
    · rw [if_pos (by rw [e]; exact List.mem_cons_self)]
      exact valV_pos (p := ((Sum.inl (m : Int) : Key), V.bl true)) (by rw [e])
    · have ne : ¬ (Sum.inl (m : Int) : Key) = Sum.inl (n : Int) := fun z => e (by have := Sum.inl.inj z; omega)
      refine (valV_neg (p := ((Sum.inl (m : Int) : Key), V.bl true)) ne).trans (ih.trans ?_)
      by_cases h : n ∈ ns
      · rw [if_pos h, if_pos (List.mem_cons_of_mem _ h)]
      · rw [if_neg h, if_neg (fun z => (List.mem_cons.mp z).elim (fun z => e z.symm) h)]
theorem put_ikv {ns : List Nat} {n : Nat} (h : n ∉ ns) : putK (ikv ns) (Sum.inl (n : Int)) (.bl true) = ikv (ns ++ [n]) := by
  rw [putK_new _ (by rw [val_ikv, if_neg h])]
  unfold ikv
  rw [List.map_append]
  rfl
theorem in_ikv (ns : List Nat) (n : Nat) : (valV (ikv ns) (Sum.inl (n : Int))).isSome = decide (n ∈ ns) := by
  rw [val_ikv]
  by_cases h : n ∈ ns <;> simp [h]
abbrev nV (ns : List Nat) : List V := ns.map fun n : Nat => V.int (n : Int)
theorem nV_app (a b : List Nat) : nV (a ++ b) = nV a ++ nV b := List.map_append
theorem nV_rev (a : List Nat) : (nV a).reverse = nV a.reverse := List.map_reverse.symm
theorem nV_last (a : List Nat) (n : Nat) : (nV (a ++ [n]))[(nV (a ++ [n])).length - 1]? = some (.int (n : Int)) := by
  rw [nV_app, List.length_append]
  simp
theorem nV_drop (a : List Nat) (n : Nat) : (nV (a ++ [n])).dropLast = nV a := by
  rw [nV_app]
  simp
theorem nV_ne (a : List Nat) (n : Nat) : (!(nV (a ++ [n])).isEmpty) = true := by
  rw [nV_app]
  simp
/-- the walk through a term, its letters by their first appearance -/
inductive FlRun (st : List Nd) : Nat → List Nat → List Str → List Nat → List Str → Prop
  | done {seen : List Nat} {found : List Str} : found.length ≤ 50000 → FlRun st 0 seen found [] found
  | old {m n : Nat} {seen : List Nat} {found r : List Str} {ds : List Nat} : n ∈ seen → FlRun st m seen found ds r → FlRun st (m + 1) seen found (ds ++ [n]) r
  | new {m n : Nat} {seen : List Nat} {found r : List Str} {ds : List Nat} {x : Nd} : n ∉ seen → st[n]? = some x → 1 ≤ x.w.length → x.w.length ≤ 50000 → ds.length + x.ps.length ≤ 50000 → seen.length ≤ 50000 → found.length ≤ 50000 → FlRun st m (seen ++ [n]) (if capH x.w then found ++ [x.w] else found) (ds ++ x.ps.reverse) r → FlRun st (m + 1) seen found (ds ++ [n]) r
section
variable {P : Program} {w : World} {K : PySem.W.Frag} {mg : Str → Option Value} {base : Heap} {C : Addr}
def spFirst (C : Addr) : Sp := fun vs H Q _ => ∃ (a sg : Addr) (c : Ce) (tx : List (Key × V)) (st : List Nd) (n m : Nat) (r : List Str), vs = [.ref a, .int (n : Int)] ∧ StoreAt C H a sg c tx st ∧ FlRun st m [] [] [n] r ∧ ∀ p H', H p = none → Ex H H' → H' p = some (.tup (r.map V.str)) → Q (.ref p) H'
theorem scFlo : FnScope ["self", "term", "seen", "found", "due", "node"] ["self", "term"] (defScope (sTer 11)) := ⟨rfl, rfl, rfl, by decide +kernel, rfl, by decide +kernel, by decide +kernel⟩
theorem ok_first {f : Addr} {fd : FuncData} (F0 : Fun K "first_letters_of" "Terms.first_letters_of" (sTer 11) f fd) (S : TermC K C) (N : Nm mg) (M : NmS mg) (ME : NmE mg) : FnOk P w K mg base CX0 1 f fd ["self", "term"] (spFirst C) := by
  obtain ⟨tc, gC⟩ := N.CAPITALS
  refine F0.ok scFlo (fun vs H Q E h => ?_) (fun cdv A outer s H vs Q E hr h => ?_)
  · obtain ⟨a, sg, c, tx, st, n, m, r, rfl, _⟩ := h
    rfl
  · obtain ⟨a, sg, c, tx, st, n, m0, r, rfl, hS, hrun, k⟩ := h
    have hu := hu_of hr
    obtain ⟨mG, mN, mT, mW, mP, mK, mS, mL⟩ := mem_f (c := c) (sg := sg)
    refine ⟨_, (pss_cons (ps_asg pe_dnewK (pg_name (i := 2) scFlo.nd rfl (.inl rfl))) (pss_cons (ps_asg (pe_lst pa_nil) (pg_name (i := 3) scFlo.nd rfl (.inl rfl))) (pss_cons (ps_asg (pe_lst (pa_cons (pv 1) pa_nil)) (pg_name (i := 4) scFlo.nd rfl (.inl rfl))) (pss_cons (ps_while PassesOwn.never (pt_tru (pv 4)) (pss_cons (ps_asg (pe_bm0 PySem.F.plainAttrs_list PySem.F.slot_list_pop PySem.F.type_list_pop mt_pop (pv 4)) (pg_name (i := 5) scFlo.nd rfl (.inl rfl))) (pss_one (ps_if (pt_cmp (pc_dnotin hu (pv 5) (pv 2))) (pss_cons (ps_dput hu (pv 2) (pv 5) pe_bl rfl) (pss_cons (ps_if (pt_cmpR op_isS (pe_ix ix_str (pe_ix (r := rIxL K) ix_list (pe_fld (pv 0) (by rfl)) (pv 5) (fun _ _ => rfl)) pe_int (fun _ _ => rfl)) (pe_glob (v := .str capitals) (by rfl) gC relS) rfl) (pss_one (ps_expr (pe_bm PySem.F.plainAttrs_list PySem.F.slot_list_append PySem.F.type_list_append mt_append (pv 3) (pa_cons (pe_ix (r := rIxL K) ix_list (pe_fld (pv 0) (by rfl)) (pv 5) (fun _ _ => rfl)) pa_nil)))) pss_nil) (pss_one (ps_expr (pe_bm PySem.F.plainAttrs_list PySem.F.slot_list_extend PySem.F.type_list_extend mt_extend (pv 4) (pa_cons (pe_lstRev rfl (by rfl) M.list (by rfl) ME.reversed (pe_ix (r := rIxL K) ix_list (pe_fld (pv 0) (by rfl)) (pv 5) (fun _ _ => rfl))) pa_nil)))))) pss_nil)))) (pss_one (ps_ret (pe_callTy (T := "tuple") (call_tupK (K := K) rfl) (by rfl) M.tuple (by decide +kernel) (pa_cons (pv 3) pa_nil)))))))), ?_⟩
    refine q_asgD ed_new fun ps H1 n1 e1 h1 => ?_
    refine q_asgL (el_lst ea_nil (by decide)) fun pf H2 n2 e2 h2 => ?_
    refine q_asgL (xs := [.int (n : Int)]) (el_lst (ea_cons (ev_var rfl) ea_nil) (by simp)) fun pd H3 n3 e3 h3 => ?_
    have hs3 := e3 _ _ (e2 _ _ h1)
    have hf3 := e3 _ _ h2
    have x1 : H ps = none := n1
    have x2 : H pf = none := fresh_back e1 n2
    have x3 : H pd = none := fresh_back (e1.trans e2) n3
    have d12 : ps ≠ pf := fun z => by rw [← z, h1] at n2; cases n2
    have d13 : ps ≠ pd := fun z => by rw [← z, e2 _ _ h1] at n3; cases n3
    have d23 : pf ≠ pd := fun z => by rw [← z, h2] at n3; cases n3
    refine q_while (fun m σ' H' => ∃ (seen : List Nat) (found : List Str) (due : List Nat) (u : Option V), FlRun st m seen found due r ∧ σ' = [some (.ref a), some (.int (n : Int)), some (.ref ps), some (.ref pf), some (.ref pd), u] ∧ Ex H H' ∧ H' ps = some (.dK (ikv seen)) ∧ H' pf = some (.lst (found.map V.str)) ∧ H' pd = some (.lst (nV due))) m0 ⟨[], [], [n], none, hrun, rfl, (e1.trans e2).trans e3, hs3, hf3, h3⟩ (fun m σ' H' p => ?_)
    obtain ⟨seen, found, due, u, hrun, rfl, e, hs, hf, hd⟩ := p
    refine ⟨_, et_truL (ev_var rfl) (sq_of hd), fun hb G1 g1 => ?_, fun hb G1 g1 => ?_⟩
    · cases hrun with
      | done _ => cases hb
      | @old m n1 _ _ _ ds hin hrun =>
        refine ⟨fun σ2 H2 => ∃ m', m' < m + 1 ∧ ∃ (seen : List Nat) (found : List Str) (due : List Nat) (u : Option V), FlRun st m' seen found due r ∧ σ2 = [some (.ref a), some (.int (n : Int)), some (.ref ps), some (.ref pf), some (.ref pd), u] ∧ Ex H H2 ∧ H2 ps = some (.dK (ikv seen)) ∧ H2 pf = some (.lst (found.map V.str)) ∧ H2 pd = some (.lst (nV due)), fun σ2 H2 z => z, ?_⟩
        refine q_pop (ev_var rfl) (g1 _ _ hd) (nV_last ds n1) fun G2 g2 => ?_
        rw [nV_drop]
        have g12 := g1.trans g2
        have hs2 : (L2.upd G2 pd (.lst (nV ds))) ps = some (.dK (ikv seen)) := by rw [upd_ne d13]; exact g12 _ _ hs
        have hf2 : (L2.upd G2 pd (.lst (nV ds))) pf = some (.lst (found.map V.str)) := by rw [upd_ne d23]; exact g12 _ _ hf
        refine s_when (b := false) (et_is (et_test (ev_dnotin (k := Sum.inl (n1 : Int)) (ev_var rfl) (ev_var rfl) (.inl hs2))) (by rw [in_ikv, decide_eq_true hin]; rfl)) (fun z => by cases z) (fun _ G3 g3 => ?_)
        exact ⟨m, Nat.lt_succ_self m, seen, found, ds, _, hrun, rfl, ((e.trans g12).mut x3).trans g3, g3 _ _ hs2, g3 _ _ hf2, g3 _ _ upd_same⟩
      | @new m n1 _ _ _ ds x hin hx w1 w2 z1 z2 z3 hrun =>
        refine ⟨fun σ2 H2 => ∃ m', m' < m + 1 ∧ ∃ (seen : List Nat) (found : List Str) (due : List Nat) (u : Option V), FlRun st m' seen found due r ∧ σ2 = [some (.ref a), some (.int (n : Int)), some (.ref ps), some (.ref pf), some (.ref pd), u] ∧ Ex H H2 ∧ H2 ps = some (.dK (ikv seen)) ∧ H2 pf = some (.lst (found.map V.str)) ∧ H2 pd = some (.lst (nV due)), fun σ2 H2 z => z, ?_⟩
        refine q_pop (ev_var rfl) (g1 _ _ hd) (nV_last ds n1) fun G2 g2 => ?_
        rw [nV_drop]
        have g12 := g1.trans g2
        have hs2 : (L2.upd G2 pd (.lst (nV ds))) ps = some (.dK (ikv seen)) := by rw [upd_ne d13]; exact g12 _ _ hs
        have hf2 : (L2.upd G2 pd (.lst (nV ds))) pf = some (.lst (found.map V.str)) := by rw [upd_ne d23]; exact g12 _ _ hf
        have hd2 : (L2.upd G2 pd (.lst (nV ds))) pd = some (.lst (nV ds)) := upd_same
        have e2 : Ex H (L2.upd G2 pd (.lst (nV ds))) := (e.trans g12).mut x3
        generalize hgn : L2.upd G2 pd (.lst (nV ds)) = G3 at hs2 hf2 hd2 e2
        refine s_when (b := true) (et_is (et_test (ev_dnotin (k := Sum.inl (n1 : Int)) (ev_var rfl) (ev_var rfl) (.inl hs2))) (by rw [in_ikv, decide_eq_false hin]; rfl)) (fun _ G4 g4 => ?_) (fun z => by cases z)
        refine q_dput (k := Sum.inl (n1 : Int)) ev_c (ev_var rfl) (ev_var rfl) (g4 _ _ hs2) (by unfold ikv; rw [List.length_map]; omega) fun G5 g5 => ?_
        rw [put_ikv hin]
        have g45 := g4.trans g5
        have e5 : Ex H (L2.upd G5 ps (.dK (ikv (seen ++ [n1])))) := (e2.trans g45).mut x1
        have hf5 : (L2.upd G5 ps (.dK (ikv (seen ++ [n1])))) pf = some (.lst (found.map V.str)) := by rw [upd_ne (Ne.symm d12)]; exact g45 _ _ hf2
        have hd5 : (L2.upd G5 ps (.dK (ikv (seen ++ [n1])))) pd = some (.lst (nV ds)) := by rw [upd_ne (Ne.symm d13)]; exact g45 _ _ hd2
        have hs5 : (L2.upd G5 ps (.dK (ikv (seen ++ [n1])))) ps = some (.dK (ikv (seen ++ [n1]))) := upd_same
        generalize hgn5 : L2.upd G5 ps (.dK (ikv (seen ++ [n1]))) = G6 at hs5 hf5 hd5 e5
        have hS6 := hS.mono e5
        obtain ⟨c0, r0, ec0, ec1⟩ := cap_test w1
        have fw : ∀ {G : Hp} {σ : L2.St}, Ex H G → σ[0]? = some (some (.ref a)) → σ[5]? = some (some (.int (n1 : Int))) → Ev (tOp (rIxL K) (tFld K (tVar 0) "_words") (tVar 5)) σ G (.str x.w) := fun eG h0 h5 => ev_op (ev_tfl S (ev_var h0) (hS.mono eG).at_ mW (by decide)) (ev_var h5) (rv_ixL (sq_of (hS.mono eG).w) (atI_nat (by rw [List.getElem?_map, hx]; rfl)))
        have rest : ∀ {G : Hp} {found' : List Str}, found' = (if capH x.w then found ++ [x.w] else found) → Ex H G → G ps = some (.dK (ikv (seen ++ [n1]))) → G pf = some (.lst (found'.map V.str)) → G pd = some (.lst (nV ds)) → ∃ m', m' < m + 1 ∧ True := fun _ _ _ _ _ => ⟨m, Nat.lt_succ_self m, trivial⟩
        have fin : ∀ {G : Hp} {found' : List Str} {D : Ends}, found' = (if capH x.w then found ++ [x.w] else found) → Ex H G → G ps = some (.dK (ikv (seen ++ [n1]))) → G pf = some (.lst (found'.map V.str)) → G pd = some (.lst (nV ds)) → D.nx = (fun σ2 H2 => ∃ m', m' < m + 1 ∧ ∃ (seen : List Nat) (found : List Str) (due : List Nat) (u : Option V), FlRun st m' seen found due r ∧ σ2 = [some (.ref a), some (.int (n : Int)), some (.ref ps), some (.ref pf), some (.ref pd), u] ∧ Ex H H2 ∧ H2 ps = some (.dK (ikv seen)) ∧ H2 pf = some (.lst (found.map V.str)) ∧ H2 pd = some (.lst (nV due))) → tDrop (tBM K "list" rExtend (tVar 4) (tCons (tLstRev K (tOp (rIxL K) (tFld K (tVar 0) "_parts") (tVar 5))) tNil)) D [some (.ref a), some (.int (n : Int)), some (.ref ps), some (.ref pf), some (.ref pd), some (.int (n1 : Int))] G := by
          intro G found' D ef eG gs gf gd hD
          obtain ⟨ads, a1, a2, a3⟩ := (hS.mono eG).p
          obtain ⟨q, hq⟩ : ∃ q, ads[n1]? = some q := ⟨_, List.getElem?_eq_getElem (by have := (List.getElem?_eq_some_iff.mp hx).1; omega)⟩
          refine s_extL (xs := nV ds) (ys := nV x.ps.reverse) (ev_var rfl) gd (by rw [← nV_rev]; exact el_lstRev (ev_op (ev_tfl S (ev_var rfl) (hS.mono eG).at_ mP (by decide)) (ev_var rfl) (rv_ixL (v := .ref q) (sq_of a1) (atI_nat (by rw [List.getElem?_map, hq]; rfl)))) (st_of (a3 n1 q x hq hx))) (by simp; omega) fun G7 g7 => ?_
          rw [hD, ← nV_app]
          refine ⟨m, Nat.lt_succ_self m, seen ++ [n1], found', _, _, ?_, rfl, (eG.trans g7).mut x3, by rw [upd_ne d13]; exact g7 _ _ gs, by rw [upd_ne d23]; exact g7 _ _ gf, upd_same⟩
          rw [ef]
          exact hrun
        refine q_when (b := capH x.w) (et_is (et_test (ev_op (ev_op (fw e5 rfl rfl) ev_c (rv_ixS (by omega) (by rw [ec0]; exact atI_nat (j := 0) rfl))) ev_c rv_isS)) ec1.symm) (fun b G7 g7 => ?_) (fun b G7 g7 => ?_)
        · refine s_app (g7 _ _ hf5) (ev_var rfl) (fw (e5.trans g7) rfl rfl) (by rw [List.length_map]; omega) fun G8 g8 => ?_
          have g78 := g7.trans g8
          refine fin (found' := found ++ [x.w]) (by rw [if_pos b]) ((e5.trans g78).mut x2) (by rw [upd_ne d12]; exact g78 _ _ hs5) (by rw [List.map_append]; exact upd_same) (by rw [upd_ne (Ne.symm d23)]; exact g78 _ _ hd5) rfl
        · exact fin (found' := found) (by rw [if_neg (by rw [b]; decide)]) (e5.trans g7) (g7 _ _ hs5) (g7 _ _ hf5) (g7 _ _ hd5) rfl
    · cases hrun with
      | done hz =>
        refine s_retU (eu_tupL (ev_var rfl) (sq_of (g1 _ _ hf))) fun p G2 np g2 hp => k p G2 (fresh_back (e.trans g1) np) ((e.trans g1).trans g2) hp
      | old _ _ => rw [nV_ne] at hb; cases hb
      | new _ _ _ _ _ _ _ _ => rw [nV_ne] at hb; cases hb
end
end K87
-- T8
namespace K87
open PySem PySem.Spec PyProof.Rows L2 Evl KEv TL KDd KSq KSame KTxt KNew KRvT KD
/-! _touched -/
section
variable {α : Type} {K : PySem.W.Frag} {σ : L2.St} {H : Hp} {te tl : TE} {t : TT} {j : Nat} {vs : List Nat} {xs : List V} {a : Addr}
/-- a list comprehension over a list or tuple that stands -/
theorem el_lcSF (l : List α) (p : α → Bool) (f : α → V) (h : Ev tl σ H (.ref a)) (hx : Sq K H a xs) (hl : xs.length = l.length) (hz : l.length ≤ 40000) (hw : ∀ x, wipe ((wipe σ vs).set j (some x)) vs = wipe σ vs)
    (ht : ∀ (i : Nat) (x : V) (r : α) H1, Ex H H1 → xs[i]? = some x → l[i]? = some r → EvT t ((wipe σ vs).set j (some x)) H1 (p r)) (he : ∀ (i : Nat) (x : V) (r : α) H1, Ex H H1 → xs[i]? = some x → l[i]? = some r → p r = true → Ev te ((wipe σ vs).set j (some x)) H1 (f r)) :
    EvL (tLc (iSeq K tl) (gName j) t te vs) σ H ((l.filter p).map f) := by
  rw [← given_l (p := p) (f := f) hl]
  refine el_lcSq (pAt l p) (vAt l f) h hx (by omega) hw (fun i x H1 e hi => ?_) (fun i x H1 e hi hf => ?_)
  · obtain ⟨r, er⟩ : ∃ r, l[i]? = some r := ⟨_, List.getElem?_eq_getElem (by have := (List.getElem?_eq_some_iff.mp hi).1; omega)⟩
    have e1 : pAt l p i = p r := by
      unfold pAt
      rw [er]
    rw [e1]
    exact ht i x r H1 e hi er
  · obtain ⟨r, er⟩ : ∃ r, l[i]? = some r := ⟨_, List.getElem?_eq_getElem (by have := (List.getElem?_eq_some_iff.mp hi).1; omega)⟩
    have e1 : pAt l p i = p r := by
      unfold pAt
      rw [er]
    have e2 : vAt l f i = f r := by
      unfold vAt
      rw [er]
    rw [e2]
    exact he i x r H1 e hi er (e1.symm.trans hf)
theorem el_lcSM (l : List α) (f : α → V) (h : Ev tl σ H (.ref a)) (hx : Sq K H a xs) (hl : xs.length = l.length) (hz : l.length ≤ 40000) (hw : ∀ x, wipe ((wipe σ vs).set j (some x)) vs = wipe σ vs)
    (he : ∀ (i : Nat) (x : V) (r : α) H1, Ex H H1 → xs[i]? = some x → l[i]? = some r → Ev te ((wipe σ vs).set j (some x)) H1 (f r)) : EvL (tLc (iSeq K tl) (gName j) tYes te vs) σ H (l.map f) := by
  have := el_lcSF (K := K) (t := tYes) l (fun _ => true) f h hx hl hz hw (fun i x r H1 e hi er => fun H2 _ Q q => q H2 (Ex.refl H2)) (fun i x r H1 e hi er _ => he i x r H1 e hi er)
  rwa [List.filter_eq_self.mpr fun _ _ => rfl] at this
theorem ev_any {bs : List Bool} (h : EvL te σ H (bs.map V.bl)) : Ev (tCB (rAny K) (tCons te tNil)) σ H (.bl (bs.any id)) := fun H1 e Q q => h H1 e _ fun p H2 _ e2 h2 => ⟨p, bs, rfl, sq_of h2, q H2 e2⟩
theorem el_listDk {p : Addr} {kvs : List (Key × V)} (ha : Ev te σ H (.ref p)) (h : H p = some (.dK kvs)) : EvL (tCB rListD (tCons te tNil)) σ H (kvs.map fun kv => kV kv.1) := el_cb (ea_cons ha ea_nil) fun H1 e Q q => ⟨p, kvs, rfl, e _ _ h, fun l hl => q l _ hl (Ex.new hl) upd_same⟩
end
/-- what is put in, as a dict -/
def fK (F : List (Str × Nat)) : List (Key × V) := dkv (fun p : Str × Nat => p.1) (fun p => V.int (p.2 : Int)) F
def hits (F : List (Str × Nat)) (x : Nd) : Bool := x.ls.any fun y => decide (y ∈ F.map (·.1))
theorem in_fK (F : List (Str × Nat)) (y : Str) : (valV (fK F) (Sum.inr y)).isSome = decide (y ∈ F.map (·.1)) := dkv_some _ _ _ _
theorem ikv_keys (ns : List Nat) : ((ikv ns).map fun kv => kV kv.1) = nV ns := by
  unfold ikv nV
  rw [List.map_map]
  rfl
inductive TcRun (st : List Nd) (F : List (Str × Nat)) : Nat → List Nat → List Nat → List Nat → Prop
  | done {seen : List Nat} : seen.length ≤ 50000 → TcRun st F 0 seen [] seen
  | old {m n : Nat} {seen r ds : List Nat} {x : Nd} : st[n]? = some x → x.ls.length ≤ 40000 → (n ∈ seen ∨ hits F x = false) → TcRun st F m seen ds r → TcRun st F (m + 1) seen (ds ++ [n]) r
  | new {m n : Nat} {seen r ds : List Nat} {x : Nd} : n ∉ seen → st[n]? = some x → x.ls.length ≤ 40000 → hits F x = true → ds.length + x.ps.length ≤ 50000 → seen.length ≤ 50000 → TcRun st F m (seen ++ [n]) (ds ++ x.ps) r → TcRun st F (m + 1) seen (ds ++ [n]) r
theorem int_nat {ns : List Int} {seen : List Nat} (h : ns.Perm (seen.map fun n : Nat => (n : Int))) : ∃ ss : List Nat, ns = ss.map fun n : Nat => (n : Int) := by
  have hn : ∀ i ∈ ns, 0 ≤ i := fun i hi => by
    obtain ⟨n, _, rfl⟩ := List.mem_map.mp (h.mem_iff.mp hi)
    omega
  refine ⟨ns.map Int.toNat, ?_⟩
  rw [List.map_map]
  conv => lhs; rw [← List.map_id ns]
  refine List.map_congr_left fun i hi => ?_
  have := hn i hi
  simp only [Function.comp, id]
  omega
section
variable {P : Program} {w : World} {K : PySem.W.Frag} {mg : Str → Option Value} {base : Heap} {C : Addr}
def spTouched (C : Addr) : Sp := fun vs H Q _ => ∃ (a sg d : Addr) (c : Ce) (tx : List (Key × V)) (st : List Nd) (F : List (Str × Nat)) (n m : Nat) (r : List Nat), vs = [.ref a, .int (n : Int), .ref d] ∧ StoreAt C H a sg c tx st ∧ H d = some (.dK (fK F)) ∧ TcRun st F m [] [n] r ∧ ∀ ss p H', ss.Perm r → ss.Pairwise (· ≤ ·) → H p = none → Ex H H' → H' p = some (.lst (nV ss)) → Q (.ref p) H'
theorem scTch : FnScope ["self", "term", "filling", "seen", "due", "node", "letter"] ["self", "term", "filling"] (defScope (sTer 13)) := ⟨rfl, rfl, rfl, by decide +kernel, rfl, by decide +kernel, by decide +kernel⟩
theorem ok_touched {f : Addr} {fd : FuncData} (F0 : Fun K "_touched" "Terms._touched" (sTer 13) f fd) (S : TermC K C) (N : Nm mg) (M : NmS mg) (ME : NmE mg) : FnOk P w K mg base CX0 1 f fd ["self", "term", "filling"] (spTouched C) := by
  refine F0.ok scTch (fun vs H Q E h => ?_) (fun cdv A outer s H vs Q E hr h => ?_)
  · obtain ⟨a, sg, d, c, tx, st, F, n, m, r, rfl, _⟩ := h
    rfl
  · obtain ⟨a, sg, d, c, tx, st, F, n, m0, r, rfl, hS, hF, hrun, k⟩ := h
    have hu := hu_of hr
    obtain ⟨mG, mN, mT, mW, mP, mK, mS, mL⟩ := mem_f (c := c) (sg := sg)
    refine ⟨_, (pss_cons (ps_asg pe_dnewK (pg_name (i := 3) scTch.nd rfl (.inl rfl))) (pss_cons (ps_asg (pe_lst (pa_cons (pv 1) pa_nil)) (pg_name (i := 4) scTch.nd rfl (.inl rfl))) (pss_cons (ps_while PassesOwn.never (pt_tru (pv 4)) (pss_cons (ps_asg (pe_bm0 PySem.F.plainAttrs_list PySem.F.slot_list_pop PySem.F.type_list_pop mt_pop (pv 4)) (pg_name (i := 5) scTch.nd rfl (.inl rfl))) (pss_one (ps_if (PW.pt (pw_and (pt_cmp (pc_dnotin hu (pv 5) (pv 3))) (pw_and1 (pt_val (pe_callB (r := rAny K) (cr_any rfl) (by rfl) ME.any (by decide +kernel) (pa_cons (pe_lc (own := [("letter", 6)]) (g := gName 6) rfl scTch.nd (pi_seq (pe_ix (r := rIxL K) ix_list (pe_fld (pv 0) (by rfl)) (pv 5) (fun _ _ => rfl))) (blkOk_by (own := [("letter", 6)]) (N := ["self", "term", "filling", "seen", "due", "node", "letter"]) (sc := defScope (sTer 13)) (by decide +kernel)) (fun _ _ _ _ _ => pg_name (i := 6) scTch.nd rfl (.inl rfl) (hf := .inr rfl)) (fun _ _ _ _ _ => pts_nil) (fun _ _ _ _ _ => (pe_cmp (pc_din hu (pv 6) (pv 2))))) pa_nil)))))) (pss_cons (ps_dput hu (pv 3) (pv 5) pe_bl rfl) (pss_one (ps_expr (pe_bm PySem.F.plainAttrs_list PySem.F.slot_list_extend PySem.F.type_list_extend mt_extend (pv 4) (pa_cons (pe_callTy (r := rListS K) call_list_of (by rfl) M.list (by decide +kernel) (pa_cons (pe_ix (r := rIxL K) ix_list (pe_fld (pv 0) (by rfl)) (pv 5) (fun _ _ => rfl)) pa_nil)) pa_nil))))) pss_nil)))) (pss_one (ps_ret (pe_callB (r := rSortedI K) cr_sortedI (by rfl) ME.sorted (by decide +kernel) (pa_cons (pe_callTy (r := rListD) (call_list_dK rfl) (by rfl) M.list (by decide +kernel) (pa_cons (pv 3) pa_nil)) pa_nil))))))), ?_⟩
    refine q_asgD ed_new fun ps H1 n1 e1 h1 => ?_
    refine q_asgL (xs := [.int (n : Int)]) (el_lst (ea_cons (ev_var rfl) ea_nil) (by simp)) fun pd H2 n2 e2 h2 => ?_
    have hs2 := e2 _ _ h1
    have x1 : H ps = none := n1
    have x2 : H pd = none := fresh_back e1 n2
    have d12 : ps ≠ pd := fun z => by rw [← z, h1] at n2; cases n2
    let St := fun (seen due : List Nat) (H' : Hp) (σ' : L2.St) => ∃ u u2 : Option V, σ' = [some (.ref a), some (.int (n : Int)), some (.ref d), some (.ref ps), some (.ref pd), u, u2] ∧ Ex H H' ∧ H' ps = some (.dK (ikv seen)) ∧ H' pd = some (.lst (nV due))
    refine q_while (fun m σ' H' => ∃ (seen due : List Nat), TcRun st F m seen due r ∧ St seen due H' σ') m0 ⟨[], [n], hrun, none, none, rfl, e1.trans e2, hs2, h2⟩ (fun m σ' H' p => ?_)
    obtain ⟨seen, due, hrun, u, u2, rfl, e, hs, hd⟩ := p
    refine ⟨_, et_truL (ev_var rfl) (sq_of hd), fun hb G1 g1 => ?_, fun hb G1 g1 => ?_⟩
    · -- the test of a node
      have key : ∀ {n1 : Nat} {x : Nd} {G : Hp}, st[n1]? = some x → x.ls.length ≤ 40000 → Ex H G → EvL (tLc (iSeq K (tOp (rIxL K) (tFld K (tVar 0) "_letters") (tVar 5))) (gName 6) tYes (tDIn (tVar 6) (tVar 2)) [6]) [some (.ref a), some (.int (n : Int)), some (.ref d), some (.ref ps), some (.ref pd), some (.int (n1 : Int)), u2] G ((x.ls.map fun y => decide (y ∈ F.map (·.1))).map V.bl) := by
        intro n1 x G hx hl eG
        obtain ⟨als, a1, a2, a3⟩ := (hS.mono eG).l
        obtain ⟨q, hq⟩ : ∃ q, als[n1]? = some q := ⟨_, List.getElem?_eq_getElem (by have := (List.getElem?_eq_some_iff.mp hx).1; omega)⟩
        rw [List.map_map]
        refine el_lcSM (xs := x.ls.map V.str) x.ls _ (ev_op (ev_tfl S (ev_var rfl) (hS.mono eG).at_ mL (by decide)) (ev_var rfl) (rv_ixL (v := .ref q) (sq_of a1) (atI_nat (by rw [List.getElem?_map, hq]; rfl)))) (.inr (st_of (a3 n1 q x hq hx))) (by simp) hl (fun _ => rfl) fun i v y G2 g2 hv hy => ?_
        rw [List.getElem?_map, hy] at hv
        obtain rfl := Option.some.inj hv
        refine ev_is (ev_din (k := Sum.inr y) (ev_var rfl) (ev_var rfl) (g2 _ _ (eG _ _ hF))) ?_
        rw [in_fK]
        rfl
      have ka : ∀ {x : Nd}, ((x.ls.map fun y => decide (y ∈ F.map (·.1))).any id) = hits F x := fun {x} => by
        unfold hits
        rw [List.any_map]
        rfl
      cases hrun with
      | done _ => cases hb
      | @old m n1 _ _ ds x hx hl hin hrun =>
        refine ⟨fun σ2 H2 => ∃ m', m' < m + 1 ∧ ∃ (seen due : List Nat), TcRun st F m' seen due r ∧ St seen due H2 σ2, fun σ2 H2 z => z, ?_⟩
        refine q_pop (ev_var rfl) (g1 _ _ hd) (nV_last ds n1) fun G2 g2 => ?_
        rw [nV_drop]
        have g12 := g1.trans g2
        have hs2 : (L2.upd G2 pd (.lst (nV ds))) ps = some (.dK (ikv seen)) := by rw [upd_ne d12]; exact g12 _ _ hs
        have e2 : Ex H (L2.upd G2 pd (.lst (nV ds))) := (e.trans g12).mut x2
        refine s_when (b := false) (et_is (et_and (et_test (ev_dnotin (k := Sum.inl (n1 : Int)) (ev_var rfl) (ev_var rfl) (.inl hs2))) fun _ => et_B (ev_any (key hx hl e2))) ?_) (fun z => by cases z) (fun _ G3 g3 => ?_)
        · rw [in_ikv, ka]
          rcases hin with hin | hin
          · rw [decide_eq_true hin]
            rfl
          · rw [hin]
            simp
        · exact ⟨m, Nat.lt_succ_self m, seen, ds, hrun, _, _, rfl, e2.trans g3, g3 _ _ hs2, g3 _ _ upd_same⟩
      | @new m n1 _ _ ds x hin hx hl hh z1 z2 hrun =>
        refine ⟨fun σ2 H2 => ∃ m', m' < m + 1 ∧ ∃ (seen due : List Nat), TcRun st F m' seen due r ∧ St seen due H2 σ2, fun σ2 H2 z => z, ?_⟩
        refine q_pop (ev_var rfl) (g1 _ _ hd) (nV_last ds n1) fun G2 g2 => ?_
        rw [nV_drop]
        have g12 := g1.trans g2
        have hs2 : (L2.upd G2 pd (.lst (nV ds))) ps = some (.dK (ikv seen)) := by rw [upd_ne d12]; exact g12 _ _ hs
        have hd2 : (L2.upd G2 pd (.lst (nV ds))) pd = some (.lst (nV ds)) := upd_same
        have e2 : Ex H (L2.upd G2 pd (.lst (nV ds))) := (e.trans g12).mut x2
        generalize hgn : L2.upd G2 pd (.lst (nV ds)) = G3 at hs2 hd2 e2
        refine s_when (b := true) (et_is (et_and (et_test (ev_dnotin (k := Sum.inl (n1 : Int)) (ev_var rfl) (ev_var rfl) (.inl hs2))) fun _ => et_B (ev_any (key hx hl e2))) ?_) (fun _ G4 g4 => ?_) (fun z => by cases z)
        · rw [in_ikv, ka, decide_eq_false hin, hh]
          rfl
        · refine q_dput (k := Sum.inl (n1 : Int)) ev_c (ev_var rfl) (ev_var rfl) (g4 _ _ hs2) (by unfold ikv; rw [List.length_map]; omega) fun G5 g5 => ?_
          rw [put_ikv hin]
          have g45 := g4.trans g5
          have e5 : Ex H (L2.upd G5 ps (.dK (ikv (seen ++ [n1])))) := (e2.trans g45).mut x1
          have hd5 : (L2.upd G5 ps (.dK (ikv (seen ++ [n1])))) pd = some (.lst (nV ds)) := by rw [upd_ne (Ne.symm d12)]; exact g45 _ _ hd2
          have hs5 : (L2.upd G5 ps (.dK (ikv (seen ++ [n1])))) ps = some (.dK (ikv (seen ++ [n1]))) := upd_same
          generalize hgn5 : L2.upd G5 ps (.dK (ikv (seen ++ [n1]))) = G6 at hs5 hd5 e5
          obtain ⟨ads, a1, a2, a3⟩ := (hS.mono e5).p
          obtain ⟨q, hq⟩ : ∃ q, ads[n1]? = some q := ⟨_, List.getElem?_eq_getElem (by have := (List.getElem?_eq_some_iff.mp hx).1; omega)⟩
          refine s_extL (xs := nV ds) (ys := nV x.ps) (ev_var rfl) hd5 (fun G7 g7 Q q7 => (ev_op (ev_tfl S (ev_var rfl) (hS.mono e5).at_ mP (by decide)) (ev_var rfl) (rv_ixL (v := .ref q) (sq_of a1) (atI_nat (by rw [List.getElem?_map, hq]; rfl)))) G7 g7 _ fun G8 g8 => ⟨q, _, rfl, .inr (st_of (g8 _ _ (g7 _ _ (a3 n1 q x hq hx)))), fun l hl => q7 l _ (fresh_back g8 hl) (g8.trans (Ex.new hl)) upd_same⟩) (by simp; omega) fun G7 g7 => ?_
          rw [← nV_app]
          exact ⟨m, Nat.lt_succ_self m, _, _, hrun, _, _, rfl, (e5.trans g7).mut x2, by rw [upd_ne d12]; exact g7 _ _ hs5, upd_same⟩
    · cases hrun with
      | done hz =>
        refine (el_listDk (ev_var rfl) (g1 _ _ hs)) G1 (Ex.refl G1) _ fun p G2 np g2 hp => ?_
        rw [ikv_keys] at hp
        refine ⟨p, r.map fun n : Nat => (n : Int), rfl, sq_of (by rw [hp, List.map_map]; rfl), fun ns' q pm pw nq => ?_⟩
        obtain ⟨ss, rfl⟩ := int_nat pm
        have e02 := (e.trans g1).trans g2
        refine k ss q _ ?_ ?_ (fresh_back e02 nq) (e02.trans (Ex.new nq)) (by rw [upd_same, List.map_map]; rfl)
        · have := pm.map Int.toNat
          rw [List.map_map, List.map_map] at this
          have hid : (Int.toNat ∘ fun n : Nat => (n : Int)) = id := by funext n; simp
          rwa [hid, List.map_id, List.map_id] at this
        · rw [List.pairwise_map] at pw
          exact pw.imp fun h => by omega
      | old _ _ _ _ => rw [nV_ne] at hb; cases hb
      | new _ _ _ _ _ _ _ => rw [nV_ne] at hb; cases hb
end
end K87
-- T9
namespace K87
open PySem PySem.Spec PyProof.Rows L2 Evl KEv TL KDd KSq KSame KTxt KNew KRvT KD
/-! put_in -/
/-- numbers made for numbers -/
def mK (ms : List (Nat × Nat)) : List (Key × V) := ms.map fun p : Nat × Nat => (Sum.inl (p.1 : Int), V.int (p.2 : Int))
def lk (ms : List (Nat × Nat)) (n : Nat) : Option Nat := (ms.find? fun p => decide (p.1 = n)).map (·.2)
def lkD (ms : List (Nat × Nat)) (n : Nat) : Nat := (lk ms n).getD n
theorem val_mK (ms : List (Nat × Nat)) (n : Nat) : valV (mK ms) (Sum.inl (n : Int)) = (lk ms n).map fun v : Nat => V.int (v : Int) := by
  unfold lk
  induction ms with
  | nil => rfl
  | cons p ms ih =>
    rw [List.find?_cons]
    by_cases e : p.1 = n
    · rw [decide_eq_true e]
      exact valV_pos (p := ((Sum.inl (p.1 : Int) : Key), V.int (p.2 : Int))) (by rw [e])
    · rw [decide_eq_false e]
      have ne : ¬ (Sum.inl (p.1 : Int) : Key) = Sum.inl (n : Int) := fun z => e (by have := Sum.inl.inj z; omega)
      exact (valV_neg (p := ((Sum.inl (p.1 : Int) : Key), V.int (p.2 : Int))) ne).trans ih
theorem put_mK {ms : List (Nat × Nat)} {n v : Nat} (h : lk ms n = none) : putK (mK ms) (Sum.inl (n : Int)) (.int (v : Int)) = mK (ms ++ [(n, v)]) := by
  rw [putK_new _ (by rw [val_mK, h]; rfl)]
  unfold mK
  rw [List.map_append]
  rfl
theorem get_mK (ms : List (Nat × Nat)) (n : Nat) : (valV (mK ms) (Sum.inl (n : Int))).getD (.int (n : Int)) = .int (lkD ms n : Int) := by
  rw [val_mK]
  unfold lkD
  cases lk ms n <;> rfl
/-- the terms that are touched, made anew from the least -/
inductive PiRun (F : List (Str × Nat)) (L : List Str) : List Nat → List Nd → List (Nat × Nat) → List Nd → List (Nat × Nat) → Prop
  | done {st : List Nd} {ms : List (Nat × Nat)} : PiRun F L [] st ms st ms
  | lett {n v : Nat} {ns : List Nat} {st st' : List Nd} {ms ms' : List (Nat × Nat)} {x : Nd} : st[n]? = some x → 1 ≤ x.w.length → x.w.length ≤ 400 → capH x.w = true → (x.w, v) ∈ F → lk ms n = none → ms.length ≤ 50000 → PiRun F L ns st (ms ++ [(n, v)]) st' ms' → PiRun F L (n :: ns) st ms st' ms'
  | put {n : Nat} {ns : List Nat} {st st' : List Nd} {ms ms' : List (Nat × Nat)} {x : Nd} : st[n]? = some x → 1 ≤ x.w.length → x.w.length ≤ 400 → capH x.w = false → lk ms n = none → ms.length ≤ 50000 → Wd L st → (∀ i ∈ x.ps.map (lkD ms), i < st.length) → x.ps.length ≤ 10 → PiRun F L ns (putS st x.w (x.ps.map (lkD ms)) x.kd).1 (ms ++ [(n, (putS st x.w (x.ps.map (lkD ms)) x.kd).2)]) st' ms' → PiRun F L (n :: ns) st ms st' ms'
theorem fresh_nin {C : Addr} {H : Hp} {a sg b : Addr} {c : Ce} {tx : List (Key × V)} {st : List Nd} (hS : StoreAt C H a sg c tx st) (hb : H b = none) : b ∉ cells c := by
  obtain ⟨ad, p1, _⟩ := hS.p
  obtain ⟨al, l1, _⟩ := hS.l
  intro z
  simp only [cells, List.mem_cons, List.not_mem_nil, or_false] at z
  rcases z with rfl | rfl | rfl | rfl | rfl | rfl
  · rw [hS.n] at hb; cases hb
  · rw [hS.w] at hb; cases hb
  · rw [p1] at hb; cases hb
  · rw [hS.k] at hb; cases hb
  · rw [hS.s] at hb; cases hb
  · rw [l1] at hb; cases hb
theorem StoreAt.updK {C : Addr} {G : Hp} {a sg pm : Addr} {c : Ce} {tx : List (Key × V)} {st : List Nd} {kvs : List (Key × V)} {o : HO} (hS : StoreAt C G a sg c tx st) (hp : G pm = some (.dK kvs)) (ht : pm ≠ c.t) : StoreAt C (L2.upd G pm o) a sg c tx st := by
  have keep : ∀ {b : Addr} {u : HO}, G b = some u → (∀ ks, u ≠ .dK ks) → (L2.upd G pm o) b = some u := fun {b u} hb hu => by
    rw [upd_ne (fun z => by rw [z, hp] at hb; exact hu _ (Option.some.inj hb).symm)]
    exact hb
  obtain ⟨⟨dx, fs, h1, h2⟩, ⟨dx', fs', h3, h4⟩, h5, h6, h7, ⟨ad, p1, p2, p3⟩, h9, h10, ⟨al, l1, l2, l3⟩, h12⟩ := hS
  exact ⟨⟨dx, fs, keep h1 (fun _ z => by cases z), h2⟩, ⟨dx', fs', keep h3 (fun _ z => by cases z), h4⟩, keep h5 (fun _ z => by cases z), by rw [upd_ne (Ne.symm ht)]; exact h6, keep h7 (fun _ z => by cases z), ⟨ad, keep p1 (fun _ z => by cases z), p2, fun i q x z1 z2 => keep (p3 i q x z1 z2) (fun _ z => by cases z)⟩, keep h9 (fun _ z => by cases z), keep h10 (fun _ z => by cases z), ⟨al, keep l1 (fun _ z => by cases z), l2, fun i q x z1 z2 => keep (l3 i q x z1 z2) (fun _ z => by cases z)⟩, h12⟩
theorem ExB.trans {F : List Addr} {H H1 H2 : Hp} (a : ExB F H H1) (b : ExB F H1 H2) : ExB F H H2 := fun p o hp h => b p o hp (a p o hp h)
theorem ExB.of {F : List Addr} {H H1 : Hp} (a : Ex H H1) : ExB F H H1 := fun p o _ h => a p o h
section
variable {P : Program} {w : World} {K : PySem.W.Frag} {mg : Str → Option Value} {base : Heap} {C CS : Addr} {σ : L2.St} {H : Hp} {D : Ends} {tz tu : TS} {te tl td ty tx ta tb tc : TE} {g : TG}
theorem q_forRL {R : List V → Hp → Prop} (h : ∀ Q : VK, (∀ p xs H2, H p = none → Ex H H2 → H2 p = some (.lst xs) → R xs H2 → Q (.ref p) H2) → tl σ H Q)
    (k : ∀ p xs H1, H p = none → Ex H H1 → H1 p = some (.lst xs) → R xs H1 → ∃ Pv : Nat → L2.St → Hp → Prop, Pv 0 σ H1 ∧ (∀ i σ' H', i ≤ xs.length → Pv i σ' H' → SqL K H' p xs) ∧ (∀ i x σ' H', xs[i]? = some x → Pv i σ' H' → g x σ' H' fun σ2 H2 => tu { D with nx := Pv (i + 1), ct := Pv (i + 1), bk := tz D } σ2 H2) ∧ (∀ σ' H', Pv xs.length σ' H' → tz D σ' H')) :
    tSeq (tFor (iList K tl) g tu) tz D σ H :=
  h _ fun p xs H1 hp e h1 r => by
    obtain ⟨Pv, a1, a2, a3, a4⟩ := k p xs H1 hp e h1 r
    exact ⟨p, rfl, ⟨xs, sq_of h1⟩, for_list (D := { D with nx := tz D }) Pv a1 a2 a3 a4⟩
theorem s_dputP {F : List Addr} {R : V → Hp → Prop} {a : Addr} {k : Key} (hv : EvP F tx σ H R) (hd : ∀ H1, Ev td σ H1 (.ref a)) (hk : ∀ H1, Ev ty σ H1 (kV k)) (kk : ∀ v H1, ExB F H H1 → R v H1 → ∃ kvs, H1 a = some (.dK kvs) ∧ kvs.length ≤ 100000 ∧ ∀ H2, Ex H1 H2 → D.nx σ (L2.upd H2 a (.dK (putK kvs k v)))) : sDPut td ty tx D σ H :=
  hv H (Ex.refl H) _ fun v H1 x1 r => by
    obtain ⟨kvs, h1, h2, h3⟩ := kk v H1 x1 r
    exact hd H1 H1 (Ex.refl H1) _ fun H2 e2 => hk H2 H2 (Ex.refl H2) _ fun H3 e3 => ⟨a, _, rfl, DPut.k (e3 _ _ (e2 _ _ h1)) (Nat.lt_of_le_of_lt h2 (by decide)), h3 H3 (e2.trans e3)⟩
theorem era_put2 {x kd : Str} {pp : Addr} {xs : List V} (h1 : Ev ta σ H (.str x)) (h2 : Ev tb σ H (.ref pp)) (hp : H pp = some (.tup xs)) (h3 : ∀ H1, Ex H H1 → Ev tc σ H1 (.str kd)) : EvRA (tCons ta (tCons tb (tCons tc tNil))) σ H fun vs G => ∃ pp, vs = [.str x, .ref pp, .str kd] ∧ G pp = some (.tup xs) := fun H1 e Q q =>
  h1 H1 e _ fun H2 e2 => h2 H2 (e.trans e2) _ fun H3 e3 => h3 H3 ((e.trans e2).trans e3) H3 (Ex.refl H3) _ fun H4 e4 => q _ H4 ((e2.trans e3).trans e4) ⟨pp, rfl, e4 _ _ (e3 _ _ (e2 _ _ (e _ _ hp)))⟩
def spPutIn (C CS : Addr) : Sp := fun vs H Q _ => ∃ (a sg d : Addr) (c : Ce) (tx : List (Key × V)) (st : List Nd) (F : List (Str × Nat)) (n m : Nat) (r : List Nat) (L : List Str) (sorts : List Row) (signs : List Sgn) (pc ps pa pr : Addr) (sgn : List (Sgn × Addr)), vs = [.ref a, .int (n : Int), .ref d] ∧ StoreAt C H a sg c tx st ∧ SigAt CS H sg sorts signs pc ps pa pr sgn ∧ H d = some (.dK (fK F)) ∧
  F.length ≤ 1000 ∧ (F.map (·.1)).Nodup ∧ (∀ p ∈ F, IsLet p.1 ∧ ∃ y, st[p.2]? = some y ∧ wordSort sorts signs p.1 300 = some y.kd) ∧ TcRun st F m [] [n] r ∧ ∀ ss : List Nat, ss.Perm r → ss.Pairwise (· ≤ ·) → ∃ st' ms, PiRun F L ss st [] st' ms ∧ ∀ H', ExB (cells c) H H' → StoreAt C H' a sg c tx st' → Q (.int (lkD ms n : Int)) H'
theorem scPin : FnScope ["self", "term", "filling", "letter", "made", "node", "word", "part", "parts"] ["self", "term", "filling"] (defScope (sTer 12)) := ⟨rfl, rfl, rfl, by decide +kernel, rfl, by decide +kernel, by decide +kernel⟩
theorem ok_put_in {f fi ft fw fp : Addr} {fd fdi fdt fdw fdp : FuncData} {dt dw dp : List Value} (F0 : Fun K "put_in" "Terms.put_in" (sTer 12) f fd) (S : TermC K C) (SS : SigC K CS) (N : Nm mg) (M : NmS mg) (IO : GenAt P w K mg base 4 "in_order" ["letters"] (spInOrder K) fi fdi) (TO : MethAt P w K mg base CX0 1 C "_touched" ["self", "term", "filling"] [] (spTouched C) ft fdt dt)
    (W2 : MethAt P w K mg base CX0 2 CS "sort_of_word" ["self", "word", "digits"] [] (spSortW CS) fw fdw dw) (PT : MethAt P w K mg base CX0 6 C "_put" ["self", "word", "parts", "kind"] [] (spPut C) fp fdp dp) : FnOk P w K mg base CX0 7 f fd ["self", "term", "filling"] (spPutIn C CS) := by
  obtain ⟨tc, gC⟩ := N.CAPITALS
  refine F0.ok scPin (fun vs H Q E h => ?_) (fun cdv A outer s H vs Q E hr h => ?_)
  · obtain ⟨a, sg, d, c, tx, st, F, n, m, r, L, sorts, signs, pc, ps, pa, pr, sgn, rfl, _⟩ := h
    rfl
  · obtain ⟨a, sg, d, c, tx, st, F, n, m, r, L, sorts, signs, pc, ps, pa, pr, sgn, rfl, hS, hG, hF, hFl, hFn, hFk, hrun, k⟩ := h
    have hu := hu_of hr
    obtain ⟨mG, mN, mT, mW, mP, mKi, mS, mL⟩ := mem_f (c := c) (sg := sg)
    refine ⟨_, (pss_cons (ps_for PassesOwn.never rfl (pi_list (pe_call IO.F (hr.mono (by decide)) (by rfl) IO.g IO.kp IO.b .nil pass0 (pa_cons (pe_callTy (r := rListD) (call_list_dK rfl) (by rfl) M.list (by decide +kernel) (pa_cons (pv 2) pa_nil)) pa_nil))) (pg_name (i := 3) scPin.nd rfl (.inl rfl)) (pss_one (ps_if (pt_cmpR op_ne (pe_ix (r := rIxL K) ix_list (pe_fld (pv 0) (by rfl)) (pe_dget hu (pv 2) (pv 3) (fun _ _ => rfl)) (fun _ _ => rfl)) (pe_meth (pe_fld (pv 0) (by rfl)) SS.cl W2.m W2.F (hr.mono (by decide)) W2.b W2.v pass0 (pa_cons (pv 3) (pa_cons pe_int pa_nil))) (nomark _)) (pss_one ps_dead) pss_nil))) (pss_cons (ps_asg pe_dnewK (pg_name (i := 4) scPin.nd rfl (.inr rfl))) (pss_cons (ps_for PassesOwn.never rfl (pi_list (pe_meth (pv 0) S.cl TO.m TO.F (hr.mono (by decide)) TO.b TO.v pass0 (pa_cons (pv 1) (pa_cons (pv 2) pa_nil)))) (pg_name (i := 5) scPin.nd rfl (.inl rfl)) (pss_cons (ps_asg (pe_ix (r := rIxL K) ix_list (pe_fld (pv 0) (by rfl)) (pv 5) (fun _ _ => rfl)) (pg_name (i := 6) scPin.nd rfl (.inl rfl))) (pss_one (ps_if (pt_cmpR op_isS (pe_ix ix_str (pv 6) pe_int (fun _ _ => rfl)) (pe_glob (v := .str capitals) (by rfl) gC relS) rfl) (pss_one (ps_dput hu (pv 4) (pv 5) (pe_dget hu (pv 2) (pv 6) (fun _ _ => rfl)) rfl)) (pss_cons (ps_asg (pe_callTy (T := "tuple") (call_tupK (K := K) rfl) (by rfl) M.tuple (by decide +kernel) (pa_cons (pe_lc (own := [("part", 7)]) (g := gName 7) rfl scPin.nd (pi_seq (pe_ix (r := rIxL K) ix_list (pe_fld (pv 0) (by rfl)) (pv 5) (fun _ _ => rfl))) (blkOk_by (own := [("part", 7)]) (N := ["self", "term", "filling", "letter", "made", "node", "word", "part", "parts"]) (sc := defScope (sTer 12)) (by decide +kernel)) (fun _ _ _ _ _ => pg_name (i := 7) scPin.nd rfl (.inl rfl) (hf := .inr rfl)) (fun _ _ _ _ _ => pts_nil) (fun _ _ _ _ _ => (pe_dget2 hu (pv 4) (pv 7) (pv 7) ⟨rfl, rfl, rfl, rfl⟩))) pa_nil)) (pg_name (i := 8) scPin.nd rfl (.inl rfl))) (pss_one (ps_dput hu (pv 4) (pv 5) (pe_meth (pv 0) S.cl PT.m PT.F (hr.mono (by decide)) PT.b PT.v pass0 (pa_cons (pv 6) (pa_cons (pv 8) (pa_cons (pe_ix (r := rIxL K) ix_list (pe_fld (pv 0) (by rfl)) (pv 5) (fun _ _ => rfl)) pa_nil)))) rfl))))))) (pss_one (ps_ret (pe_dget2 hu (pv 4) (pv 1) (pv 1) ⟨rfl, rfl, rfl, rfl⟩)))))), ?_⟩
    have hkeys : ((fK F).map fun kv => kV kv.1) = (F.map (·.1)).map V.str := by
      unfold fK dkv
      rw [List.map_map, List.map_map]
      rfl
    have hio : EvL (tCall (spInOrder K) [] E0 (tCons (tCB rListD (tCons (tVar 2) tNil)) tNil)) [some (.ref a), some (.int (n : Int)), some (.ref d), none, none, none, none, none, none] H (((dd (F.map (·.1))).mergeSort (PySem.W.dataLe false keyN)).map V.str) := fun H3 e3 Q2 q2 =>
      (el_listDk (ev_var rfl) hF) H3 e3 _ fun r H4 hr e4 h4 => ⟨r, F.map (·.1), rfl, .inl (sq_of (by rw [h4, hkeys])), fun x hx => by
        obtain ⟨p, hp, rfl⟩ := List.mem_map.mp hx
        exact (hFk p hp).1, by rw [List.length_map]; exact hFl, fun l H5 hl e5 h5 => q2 l H5 (fresh_back e4 hl) (e4.trans e5) h5⟩
    refine q_forNL hio (fun p i σ' H' => Ex H H' ∧ H' p = some (.lst (((dd (F.map (·.1))).mergeSort (PySem.W.dataLe false keyN)).map V.str)) ∧ ∃ u3, σ' = [some (.ref a), some (.int (n : Int)), some (.ref d), u3, none, none, none, none, none]) (fun p H1 hp e1 h1 => ⟨e1, h1, none, rfl⟩) (fun p i σ' H' _ q => sq_of q.2.1) (fun p i x σ' H' hx q => ?_) (fun p σ' H' q => ?_)
    · obtain ⟨e1, h1, u3, rfl⟩ := q
      rw [List.getElem?_map] at hx
      obtain ⟨y, hy, rfl⟩ := Option.map_eq_some_iff.mp hx
      have hy2 : y ∈ F.map (·.1) := dd_mem.mp ((List.mergeSort_perm _ _).mem_iff.mp (List.mem_of_getElem? hy))
      obtain ⟨p2, hp2, rfl⟩ := List.mem_map.mp hy2
      obtain ⟨hlet, nd, hnd, hkd⟩ := hFk p2 hp2
      have hv : valV (fK F) (Sum.inr p2.1) = some (.int (p2.2 : Int)) := dkv_at (k := fun p : Str × Nat => p.1) (v := fun p => V.int (p.2 : Int)) hFn hp2
      have hS1 := hS.mono e1
      show tIfS _ _ _ _ [some (.ref a), some (.int (n : Int)), some (.ref d), some (.str p2.1), none, none, none, none, none] H'
      refine s_when (b := false) (et_is (et_test (ev_op (ev_op (ev_tfl S (ev_var rfl) hS1.at_ mKi (by decide)) (ev_dget (k := Sum.inr p2.1) (ev_var rfl) (ev_var rfl) (e1 _ _ hF) hv) (rv_ixL (v := .str nd.kd) (sq_of hS1.k) (atI_nat (by rw [List.getElem?_map, hnd]; rfl)))) (ev_is (ev_sow2 (hG.mono e1) (ev_tfl S (ev_var rfl) hS1.at_ mG (by decide)) (ev_var rfl) ev_c (by have := hlet.pos; omega)) (show _ = V.str nd.kd by rw [hkd]; rfl)) (rv_ne rfl))) (by simp)) (fun z => by cases z) (fun _ H2 e2 => ⟨e1.trans e2, e2 _ _ h1, _, rfl⟩)
    · obtain ⟨e1, _, u3, rfl⟩ := q
      refine q_asgD ed_new fun pm H2 n2 e2 h2 => ?_
      have e12 := e1.trans e2
      have hS2 := hS.mono e12
      have npm : pm ∉ cells c := fresh_nin (hS.mono e1) n2
      have xpm : H pm = none := fresh_back e1 n2
      refine q_forRL (R := fun xs _ => ∃ ss : List Nat, xs = nV ss ∧ ss.Perm r ∧ ss.Pairwise (· ≤ ·)) (fun Q q => ?_) (fun p xs H3 np e3 h3 hR => ?_)
      · obtain ⟨dx, fs, o1, o2⟩ := hS2.no
        refine (ev_var (i := 0) (v := .ref a) rfl) H2 (Ex.refl H2) _ fun H3 e3 => ⟨a, dx, fs, rfl, e3 _ _ o1, o2 _ (by decide), (ea_cons (ev_var (v := .int (n : Int)) rfl) (ea_cons (ev_var (v := .ref d) rfl) ea_nil)) H3 (Ex.refl H3) _ fun H4 e4 => ?_⟩
        have e34 := e3.trans e4
        exact ⟨a, sg, d, c, tx, st, F, n, m, r, rfl, hS2.mono e34, e34 _ _ (e12 _ _ hF), hrun, fun ss p H' s1 s2 np e5 h5 => q p _ H' (fresh_back e34 np) (e34.trans e5) h5 ⟨ss, rfl, s1, s2⟩⟩
      · obtain ⟨ss, rfl, s1, s2⟩ := hR
        obtain ⟨st', ms', hpi, kk⟩ := k ss s1 s2
        have e13 := e12.trans e3
        have hS3 := hS2.mono e3
        have np3 : p ∉ cells c := fresh_nin hS2 np
        have xp : H p = none := fresh_back e12 np
        have dmp : pm ≠ p := fun z => by rw [← z, h2] at np; cases np
        have hm3 := e3 _ _ h2
        refine ⟨fun i σ' H' => ∃ (st1 : List Nd) (ms : List (Nat × Nat)) (u5 u6 u7 u8 : Option V), PiRun F L (ss.drop i) st1 ms st' ms' ∧ σ' = [some (.ref a), some (.int (n : Int)), some (.ref d), u3, some (.ref pm), u5, u6, u7, u8] ∧ ExB (cells c) H H' ∧ StoreAt C H' a sg c tx st1 ∧ H' pm = some (.dK (mK ms)) ∧ H' p = some (.lst (nV ss)) ∧ H' d = some (.dK (fK F)), ⟨st, [], none, none, none, none, by rw [List.drop_zero]; exact hpi, rfl, ExB.of e13, hS3, hm3, h3, e13 _ _ hF⟩, fun i σ' H' _ q => ?_, fun i x σ' H' hx q => ?_, fun σ' H' q => ?_⟩
        · obtain ⟨_, _, _, _, _, _, _, _, _, _, _, z, _⟩ := q
          exact sq_of z
        · obtain ⟨st1, ms, u5, u6, u7, u8, hpi, rfl, x0, hS4, hm4, hp4, hd4⟩ := q
          rw [List.getElem?_map] at hx
          obtain ⟨n1, hn1, rfl⟩ := Option.map_eq_some_iff.mp hx
          have hdr : ss.drop i = n1 :: ss.drop (i + 1) := by
            obtain ⟨hi, hn⟩ := List.getElem?_eq_some_iff.mp hn1
            rw [← hn]
            exact List.drop_eq_getElem_cons hi
          rw [hdr] at hpi
          show tSeq _ _ _ [some (.ref a), some (.int (n : Int)), some (.ref d), u3, some (.ref pm), some (.int (n1 : Int)), u6, u7, u8] H'
          have pmt : pm ≠ c.t := fun z => by rw [z, hS.t] at xpm; cases xpm
          have pmd : d ≠ pm := fun z => by rw [z, xpm] at hF; cases hF
          have pmp : p ≠ pm := Ne.symm dmp
          -- the end of a turn
          have fin : ∀ {G G2 : Hp} {st2 : List Nd} {v : Nat} {u6 u8 : Option V}, lk ms n1 = none → PiRun F L (ss.drop (i + 1)) st2 (ms ++ [(n1, v)]) st' ms' → ExB (cells c) H' G → StoreAt C G a sg c tx st2 → Ex G G2 →
              ∃ (st1 : List Nd) (ms2 : List (Nat × Nat)) (v5 v6 v7 v8 : Option V), PiRun F L (ss.drop (i + 1)) st1 ms2 st' ms' ∧ ([some (.ref a), some (.int (n : Int)), some (.ref d), u3, some (.ref pm), some (.int (n1 : Int)), u6, u7, u8] : L2.St) = [some (.ref a), some (.int (n : Int)), some (.ref d), u3, some (.ref pm), v5, v6, v7, v8] ∧ ExB (cells c) H (L2.upd G2 pm (.dK (putK (mK ms) (Sum.inl (n1 : Int)) (.int (v : Int))))) ∧ StoreAt C (L2.upd G2 pm (.dK (putK (mK ms) (Sum.inl (n1 : Int)) (.int (v : Int))))) a sg c tx st1 ∧ (L2.upd G2 pm (.dK (putK (mK ms) (Sum.inl (n1 : Int)) (.int (v : Int))))) pm = some (.dK (mK ms2)) ∧ (L2.upd G2 pm (.dK (putK (mK ms) (Sum.inl (n1 : Int)) (.int (v : Int))))) p = some (.lst (nV ss)) ∧ (L2.upd G2 pm (.dK (putK (mK ms) (Sum.inl (n1 : Int)) (.int (v : Int))))) d = some (.dK (fK F)) := by
            intro G G2 st2 v u6 u8 hno hpi' xG hSG eG
            have m1 : G pm = some (.dK (mK ms)) := xG _ _ npm hm4
            refine ⟨st2, ms ++ [(n1, v)], _, _, _, _, hpi', rfl, ?_, (hSG.mono eG).updK (eG _ _ m1) pmt, by rw [put_mK hno]; exact upd_same, by rw [upd_ne pmp]; exact eG _ _ (xG _ _ np3 hp4), by rw [upd_ne pmd]; exact eG _ _ (xG _ _ (nin hS4 hd4 (fun _ z => by cases z) (fun _ z => by cases z)) hd4)⟩
            intro b o hb ho
            rw [upd_ne (fun z => by rw [z, xpm] at ho; cases ho)]
            exact eG _ _ (xG _ _ hb (x0 _ _ hb ho))
          have fw : ∀ {x : Nd} {G : Hp} {σ : L2.St}, st1[n1]? = some x → Ex H' G → σ[0]? = some (some (.ref a)) → σ[5]? = some (some (.int (n1 : Int))) → Ev (tOp (rIxL K) (tFld K (tVar 0) "_words") (tVar 5)) σ G (.str x.w) := fun hx eG h0 h5 => ev_op (ev_tfl S (ev_var h0) (hS4.mono eG).at_ mW (by decide)) (ev_var h5) (rv_ixL (sq_of (hS4.mono eG).w) (atI_nat (by rw [List.getElem?_map, hx]; rfl)))
          have fk : ∀ {x : Nd} {G : Hp} {σ : L2.St}, st1[n1]? = some x → Ex H' G → σ[0]? = some (some (.ref a)) → σ[5]? = some (some (.int (n1 : Int))) → Ev (tOp (rIxL K) (tFld K (tVar 0) "_kinds") (tVar 5)) σ G (.str x.kd) := fun hx eG h0 h5 => ev_op (ev_tfl S (ev_var h0) (hS4.mono eG).at_ mKi (by decide)) (ev_var h5) (rv_ixL (sq_of (hS4.mono eG).k) (atI_nat (by rw [List.getElem?_map, hx]; rfl)))
          have hmd : lk ms n1 = none ∧ ms.length ≤ 50000 := by
            cases hpi with
            | lett _ _ _ _ _ z1 z2 _ => exact ⟨z1, z2⟩
            | put _ _ _ _ z1 z2 _ _ _ _ => exact ⟨z1, z2⟩
          have hml : (mK ms).length ≤ 100000 := by
            unfold mK
            rw [List.length_map]
            omega
          have capT : ∀ {x : Nd} {G : Hp} {σ : L2.St}, 1 ≤ x.w.length → x.w.length ≤ 400 → σ[6]? = some (some (.str x.w)) → EvT (tTest (tOp rIsS (tOp rIxS (tVar 6) (tC (.int 0))) (tC (.str capitals)))) σ G (capH x.w) := fun w1 w2 h6 => by
            obtain ⟨c0, r0, ec0, ec1⟩ := cap_test w1
            exact et_is (et_test (ev_op (ev_op (ev_var h6) ev_c (rv_ixS (by omega) (by rw [ec0]; exact atI_nat (j := 0) rfl))) ev_c rv_isS)) ec1.symm
          cases hpi with
          | @lett _ v _ _ _ _ _ x hx w1 w2 hc hv _ _ hpi' =>
            refine q_asg (fw hx (Ex.refl H') rfl rfl) fun H5 e5 => ?_
            refine s_if (b := true) (et_is (capT w1 w2 rfl) hc) (fun _ H6 e6 => ?_) (fun z => by cases z)
            have e56 := e5.trans e6
            have hvv : valV (fK F) (Sum.inr x.w) = some (.int (v : Int)) := dkv_at (k := fun p : Str × Nat => p.1) (v := fun p => V.int (p.2 : Int)) hFn hv
            refine s_dput (k := Sum.inl (n1 : Int)) (ev_dget (k := Sum.inr x.w) (ev_var rfl) (ev_var rfl) (e56 _ _ hd4) hvv) (ev_var rfl) (ev_var rfl) (e56 _ _ hm4) hml fun H7 e7 => ?_
            exact fin hmd.1 hpi' (ExB.of (e56.trans e7)) (hS4.mono (e56.trans e7)) (Ex.refl H7)
          | @put _ _ _ _ _ _ x hx w1 w2 hc _ _ W hps hpl hpi' =>
            refine q_asg (fw hx (Ex.refl H') rfl rfl) fun H5 e5 => ?_
            refine s_if (b := false) (et_is (capT w1 w2 rfl) hc) (fun z => by cases z) (fun _ H6 e6 => ?_)
            have e56 := e5.trans e6
            have hS6 := hS4.mono e56
            obtain ⟨ads, a1, a2, a3⟩ := hS6.p
            obtain ⟨q, hq⟩ : ∃ q, ads[n1]? = some q := ⟨_, List.getElem?_eq_getElem (by have := (List.getElem?_eq_some_iff.mp hx).1; omega)⟩
            have hlc : EvL (tLc (iSeq K (tOp (rIxL K) (tFld K (tVar 0) "_parts") (tVar 5))) (gName 7) tYes (tDGet2 (tVar 4) (tVar 7) (tVar 7)) [7]) [some (.ref a), some (.int (n : Int)), some (.ref d), u3, some (.ref pm), some (.int (n1 : Int)), some (.str x.w), u7, u8] H6 (nV (x.ps.map (lkD ms))) := by
              unfold nV
              rw [List.map_map]
              refine el_lcSM (xs := nV x.ps) x.ps _ (ev_op (ev_tfl S (ev_var rfl) hS6.at_ mP (by decide)) (ev_var rfl) (rv_ixL (v := .ref q) (sq_of a1) (atI_nat (by rw [List.getElem?_map, hq]; rfl)))) (.inr (st_of (a3 n1 q x hq hx))) (by simp) (by omega) (fun _ => rfl) fun i v y G2 g2 hv hy => ?_
              rw [List.getElem?_map, hy] at hv
              obtain rfl := Option.some.inj hv
              exact ev_is (ev_get2 (k := Sum.inl (y : Int)) (ev_var rfl) (ev_var rfl) (ev_var rfl) (g2 _ _ (e56 _ _ hm4))) (get_mK ms y)
            refine q_asgU (eu_tupN hlc) fun pq H7 npq e7 h7 => ?_
            have e57 := e56.trans e7
            refine s_dputP (k := Sum.inl (n1 : Int)) (ep_put (hS4.mono e57) W (ev_var rfl) (era_put2 (ev_var rfl) (ev_var rfl) h7 fun H8 e8 => fk hx (e57.trans e8) rfl rfl) hps (by rw [List.length_map]; exact hpl) ⟨w1, w2⟩ (fun z => by rw [hc] at z; cases z)) (fun _ => ev_var rfl) (fun _ => ev_var rfl) fun v H8 x8 hv => ?_
            obtain ⟨rfl, hS8⟩ := hv
            have x58 : ExB (cells c) H' H8 := (ExB.of e57).trans x8
            exact ⟨mK ms, x58 _ _ npm hm4, hml, fun H9 e9 => fin hmd.1 hpi' x58 hS8 e9⟩
        · obtain ⟨st1, ms, u5, u6, u7, u8, hpi, rfl, x0, hS4, hm4, hp4, hd4⟩ := q
          rw [List.length_map, List.drop_length] at hpi
          cases hpi
          refine s_ret (ev_is (ev_get2 (k := Sum.inl (n : Int)) (ev_var rfl) (ev_var rfl) (ev_var rfl) hm4) (get_mK ms' n)) fun H5 e5 => kk H5 (fun b o hb ho => e5 _ _ (x0 b o hb ho)) (hS4.mono e5)
end
end K87
-- T10
namespace K87
open PySem PySem.Spec PyProof.Rows L2 Evl KEv TL KDd KSq KSame KTxt KHot KSup KNew KRvT KD
/-! write -/
inductive WrRun (st : List Nd) : Nat → List Nat → List Str → List Str → Prop
  | done {ws : List Str} : WrRun st 0 [] ws ws
  | step {m n : Nat} {ds : List Nat} {ws r : List Str} {x : Nd} : st[n]? = some x → ds.length + x.ps.length ≤ 50000 → ws.length ≤ 50000 → WrRun st m (ds ++ x.ps.reverse) (ws ++ [x.w]) r → WrRun st (m + 1) (ds ++ [n]) ws r
section
variable {P : Program} {w : World} {K : PySem.W.Frag} {mg : Str → Option Value} {base : Heap} {C : Addr} {ec fi : EK → Addr}
def spWrite (ec : EK → Addr) (C : Addr) : Sp := fun vs H Q E => ∃ (a sg : Addr) (c : Ce) (tx : List (Key × V)) (st : List Nd) (n : Nat) (x : Nd), vs = [.ref a, .int (n : Int)] ∧ StoreAt C H a sg c tx st ∧ st[n]? = some x ∧ (200 < x.sz → RaisesV ec .large [.int (x.sz : Int)] H E) ∧
  (x.sz ≤ 200 → ∃ m r, WrRun st m [n] [] r ∧ (r.map (·.length)).sum + r.length ≤ 1000000 ∧ RetV (.str (Txt.join (" " : Str) r)) H Q)
theorem scWri : FnScope ["self", "term", "words", "due", "node"] ["self", "term"] (defScope (sTer 14)) := ⟨rfl, rfl, rfl, by decide +kernel, rfl, by decide +kernel, by decide +kernel⟩
theorem ok_write {f : Addr} {fd : FuncData} (F0 : Fun K "write" "Terms.write" (sTer 14) f fd) (S : TermC K C) (E0 : Errs P K mg ec fi) (N : Nm mg) (M : NmS mg) (ME : NmE mg) {tk : Tok} (gW : mg "MOST_WORDS" = some (.int 200 tk)) : FnOk P w K mg base (L2N.CX P w) 2 f fd ["self", "term"] (spWrite ec C) := by
  refine okXN F0 scWri (fun vs H Q E h => ?_) (fun cdv A outer s H vs Q E hr h => ?_)
  · obtain ⟨a, sg, c, tx, st, n, x, rfl, _⟩ := h
    rfl
  · obtain ⟨a, sg, c, tx, st, n, x, rfl, hS, hx, kf, kn⟩ := h
    have tk := L2N.takes_of (X := cxOf (L2N.CX P w) P w K mg base ["self", "term", "words", "due", "node"] "Terms.write" (defScope (sTer 14)) f cdv A outer s H E) rfl rfl rfl rfl
    obtain ⟨mG, mN, mT, mW, mP, mK, mS, mL⟩ := mem_f (c := c) (sg := sg)
    refine ⟨_, (pss_cons (ps_if (pt_cmpR op_gt (pe_ix (r := rIxL K) ix_list (pe_fld (pv 0) (by rfl)) (pv 1) (fun _ _ => rfl)) (pe_glob (v := .int 200) (by rfl) gW ⟨_, rfl⟩) (nomark _)) (pss_one (L2N.ps_raise rfl tk (pmk_sup (x := "TooLarge") (E0.t .large) (by decide) hr (pa_cons (pe_ix (r := rIxL K) ix_list (pe_fld (pv 0) (by rfl)) (pv 1) (fun _ _ => rfl)) pa_nil) (by rfl)))) pss_nil) (pss_cons (ps_asg (pe_lst pa_nil) (pg_name (i := 2) scWri.nd rfl (.inl rfl))) (pss_cons (ps_asg (pe_lst (pa_cons (pv 1) pa_nil)) (pg_name (i := 3) scWri.nd rfl (.inl rfl))) (pss_cons (ps_while PassesOwn.leaving (pt_tru (pv 3)) (pss_cons (ps_asg (pe_bm0 PySem.F.plainAttrs_list PySem.F.slot_list_pop PySem.F.type_list_pop mt_pop (pv 3)) (pg_name (i := 4) scWri.nd rfl (.inl rfl))) (pss_cons (ps_expr (pe_bm PySem.F.plainAttrs_list PySem.F.slot_list_append PySem.F.type_list_append mt_append (pv 2) (pa_cons (pe_ix (r := rIxL K) ix_list (pe_fld (pv 0) (by rfl)) (pv 4) (fun _ _ => rfl)) pa_nil))) (pss_one (ps_expr (pe_bm PySem.F.plainAttrs_list PySem.F.slot_list_extend PySem.F.type_list_extend mt_extend (pv 3) (pa_cons (pe_lstRev rfl (by rfl) M.list (by rfl) ME.reversed (pe_ix (r := rIxL K) ix_list (pe_fld (pv 0) (by rfl)) (pv 4) (fun _ _ => rfl))) pa_nil))))))) (pss_one (ps_ret (pe_joinS pe_str (pv 2)))))))), ?_⟩
    have fs : ∀ {G : Hp} {σ : L2.St}, Ex H G → σ[0]? = some (some (.ref a)) → σ[1]? = some (some (.int (n : Int))) → Ev (tOp (rIxL K) (tFld K (tVar 0) "_sizes") (tVar 1)) σ G (.int (x.sz : Int)) := fun eG h0 h5 => ev_op (ev_tfl S (ev_var h0) (hS.mono eG).at_ mS (by decide)) (ev_var h5) (rv_ixL (sq_of (hS.mono eG).s) (atI_nat (by rw [List.getElem?_map, hx]; rfl)))
    by_cases hz : 200 < x.sz
    · refine q_when (b := true) (et_is (et_test (ev_op (fs (Ex.refl H) rfl rfl) ev_c rv_I0)) (decide_eq_true (by omega))) (fun _ H1 e1 => ?_) (fun z => by cases z)
      exact (ea_cons (fs e1 rfl rfl) ea_nil) H1 (Ex.refl H1) _ fun H2 e2 => ⟨rfl, fun d hd => kf hz d _ (fresh_back (e1.trans e2) hd) ((e1.trans e2).trans (Ex.new hd)) upd_same⟩
    · obtain ⟨m0, r, hrun, hlen, k⟩ := kn (by omega)
      refine q_when (b := false) (et_is (et_test (ev_op (fs (Ex.refl H) rfl rfl) ev_c rv_I0)) (decide_eq_false (by omega))) (fun z => by cases z) (fun _ H0 e0 => ?_)
      refine q_asgL (el_lst ea_nil (by decide)) fun pf H2 n2 e2 h2 => ?_
      refine q_asgL (xs := [.int (n : Int)]) (el_lst (ea_cons (ev_var rfl) ea_nil) (by simp)) fun pd H3 n3 e3 h3 => ?_
      have hf3 := e3 _ _ h2
      have x2 : H pf = none := fresh_back e0 n2
      have x3 : H pd = none := fresh_back (e0.trans e2) n3
      have d23 : pf ≠ pd := fun z => by rw [← z, h2] at n3; cases n3
      refine q_while (fun m σ' H' => ∃ (found : List Str) (due : List Nat) (u : Option V), WrRun st m due found r ∧ σ' = [some (.ref a), some (.int (n : Int)), some (.ref pf), some (.ref pd), u] ∧ Ex H H' ∧ H' pf = some (.lst (found.map V.str)) ∧ H' pd = some (.lst (nV due))) m0 ⟨[], [n], none, hrun, rfl, (e0.trans e2).trans e3, hf3, h3⟩ (fun m σ' H' p => ?_)
      obtain ⟨found, due, u, hrun, rfl, e, hf, hd⟩ := p
      refine ⟨_, et_truL (ev_var rfl) (sq_of hd), fun hb G1 g1 => ?_, fun hb G1 g1 => ?_⟩
      · cases hrun with
        | done => cases hb
        | @step m n1 ds _ _ x hx z1 z3 hrun =>
          refine ⟨fun σ2 H2 => ∃ m', m' < m + 1 ∧ ∃ (found : List Str) (due : List Nat) (u : Option V), WrRun st m' due found r ∧ σ2 = [some (.ref a), some (.int (n : Int)), some (.ref pf), some (.ref pd), u] ∧ Ex H H2 ∧ H2 pf = some (.lst (found.map V.str)) ∧ H2 pd = some (.lst (nV due)), fun σ2 H2 z => z, ?_⟩
          refine q_pop (ev_var rfl) (g1 _ _ hd) (nV_last ds n1) fun G2 g2 => ?_
          rw [nV_drop]
          have g12 := g1.trans g2
          have hf2 : (L2.upd G2 pd (.lst (nV ds))) pf = some (.lst (found.map V.str)) := by rw [upd_ne d23]; exact g12 _ _ hf
          have hd2 : (L2.upd G2 pd (.lst (nV ds))) pd = some (.lst (nV ds)) := upd_same
          have e2 : Ex H (L2.upd G2 pd (.lst (nV ds))) := (e.trans g12).mut x3
          generalize hgn : L2.upd G2 pd (.lst (nV ds)) = G3 at hf2 hd2 e2
          refine q_app hf2 (ev_var rfl) (ev_op (ev_tfl S (ev_var rfl) (hS.mono e2).at_ mW (by decide)) (ev_var rfl) (rv_ixL (v := .str x.w) (sq_of (hS.mono e2).w) (atI_nat (by rw [List.getElem?_map, hx]; rfl)))) (by rw [List.length_map]; omega) fun G4 g4 => ?_
          have e4 : Ex H (L2.upd G4 pf (.lst (found.map V.str ++ [.str x.w]))) := (e2.trans g4).mut x2
          have hf4 : (L2.upd G4 pf (.lst (found.map V.str ++ [.str x.w]))) pf = some (.lst ((found ++ [x.w]).map V.str)) := by rw [upd_same, List.map_append]; rfl
          have hd4 : (L2.upd G4 pf (.lst (found.map V.str ++ [.str x.w]))) pd = some (.lst (nV ds)) := by rw [upd_ne (Ne.symm d23)]; exact g4 _ _ hd2
          generalize hgn5 : L2.upd G4 pf (.lst (found.map V.str ++ [.str x.w])) = G6 at hf4 hd4 e4
          obtain ⟨ads, a1, a2, a3⟩ := (hS.mono e4).p
          obtain ⟨q, hq⟩ : ∃ q, ads[n1]? = some q := ⟨_, List.getElem?_eq_getElem (by have := (List.getElem?_eq_some_iff.mp hx).1; omega)⟩
          refine s_extL (xs := nV ds) (ys := nV x.ps.reverse) (ev_var rfl) hd4 (by rw [← nV_rev]; exact el_lstRev (ev_op (ev_tfl S (ev_var rfl) (hS.mono e4).at_ mP (by decide)) (ev_var rfl) (rv_ixL (v := .ref q) (sq_of a1) (atI_nat (by rw [List.getElem?_map, hq]; rfl)))) (st_of (a3 n1 q x hq hx))) (by simp; omega) fun G7 g7 => ?_
          rw [← nV_app]
          exact ⟨m, Nat.lt_succ_self m, found ++ [x.w], _, _, hrun, rfl, (e4.trans g7).mut x3, by rw [upd_ne d23]; exact g7 _ _ hf4, upd_same⟩
      · cases hrun with
        | done =>
          refine s_ret (ev_join ev_c (ev_var rfl) (sq_of (g1 _ _ hf)) (by rw [show ((" " : Str).length) = 1 from rfl]; omega)) fun G2 g2 => k G2 ((e.trans g1).trans g2)
        | step _ _ _ _ => rw [nV_ne] at hb; cases hb
end
end K87
-- T11
namespace K87
open PySem PySem.Spec PyProof.Rows L2 Evl KEv TL KDd KSq KSame KTxt KNew KRvT KD
/-! shared -/
abbrev RowN := Str × List Nat
def rowV (r : RowN) : List V := V.str r.1 :: nV r.2
/-- rows as tuples -/
structure RowsT (H : Hp) (ads : List Addr) (rows : List RowN) : Prop where
  len : ads.length = rows.length
  at_ : ∀ (i : Nat) (q : Addr) (r : RowN), ads[i]? = some q → rows[i]? = some r → H q = some (.tup (rowV r))
theorem RowsT.mono {H H' : Hp} {ads : List Addr} {rows : List RowN} (h : RowsT H ads rows) (e : Ex H H') : RowsT H' ads rows := ⟨h.len, fun i q r z1 z2 => e _ _ (h.at_ i q r z1 z2)⟩
theorem RowsT.upd {H : Hp} {ads : List Addr} {rows : List RowN} {p : Addr} {o u : HO} (h : RowsT H ads rows) (hp : H p = some u) (hu : ∀ xs, u ≠ .tup xs) : RowsT (L2.upd H p o) ads rows := ⟨h.len, fun i q r z1 z2 => by
  have := h.at_ i q r z1 z2
  rw [upd_ne (fun z => by rw [z, hp] at this; exact hu _ (Option.some.inj this))]
  exact this⟩
theorem RowsT.snoc {H : Hp} {ads : List Addr} {rows : List RowN} {q : Addr} {r : RowN} (h : RowsT H ads rows) (hq : H q = some (.tup (rowV r))) : RowsT H (ads ++ [q]) (rows ++ [r]) := by
  refine ⟨by simp [h.len], fun i q' r' z1 z2 => ?_⟩
  by_cases hi : i < rows.length
  · rw [List.getElem?_append_left (by rw [h.len]; exact hi)] at z1
    rw [List.getElem?_append_left hi] at z2
    exact h.at_ i q' r' z1 z2
  · have li := (List.getElem?_eq_some_iff.mp z2).1
    rw [List.length_append, List.length_singleton] at li
    have ei : i = rows.length := by omega
    subst ei
    rw [List.getElem?_append_right (Nat.le_of_eq h.len)] at z1
    rw [List.getElem?_append_right (Nat.le_refl _)] at z2
    simp [h.len] at z1 z2
    rw [← z1, ← z2]
    exact hq
inductive ShRun (st : List Nd) : Nat → List (Nat × Nat) → List RowN → List Nat → List RowN → Prop
  | done {ms : List (Nat × Nat)} {rows : List RowN} : ShRun st 0 ms rows [] rows
  | push {m n q : Nat} {qs ds : List Nat} {ms : List (Nat × Nat)} {rows r : List RowN} {x : Nd} : st[n]? = some x → lk ms n = none → x.ps.filter (fun p => decide (lk ms p = none)) = q :: qs → x.ps.length ≤ 100 → ds.length ≤ 50000 → ShRun st m ms rows (ds ++ [n] ++ [q]) r → ShRun st (m + 1) ms rows (ds ++ [n]) r
  | place {m n : Nat} {ds : List Nat} {ms : List (Nat × Nat)} {rows r : List RowN} {x : Nd} : st[n]? = some x → lk ms n = none → (∀ p ∈ x.ps, lk ms p ≠ none) → x.ps.length ≤ 100 → ds.length ≤ 50000 → ms.length ≤ 50000 → rows.length ≤ 50000 → ShRun st m (ms ++ [(n, rows.length)]) (rows ++ [(x.w, x.ps.map fun p => (lk ms p).getD 0)]) ds r → ShRun st (m + 1) ms rows (ds ++ [n]) r
theorem atI_last {xs : List V} {v : V} : atI (xs ++ [v]) (-1) = some v := by
  have h1 : ((-1 : Int) + ((xs ++ [v]).length : Int)).toNat = xs.length := by rw [List.length_append, List.length_singleton]; omega
  unfold atI ixN
  rw [if_neg (by omega), if_pos (by rw [List.length_append, List.length_singleton]; omega)]
  show (xs ++ [v])[_]? = some v
  rw [h1]
  simp
section
variable {P : Program} {w : World} {K : PySem.W.Frag} {mg : Str → Option Value} {base : Heap} {C : Addr} {σ : L2.St} {H : Hp} {D : Ends} {tz : TS} {ta tb : TE} {l : Addr} {xs ys : List V} {v : V}
theorem s_popD (ha : Ev ta σ H (.ref l)) (hl : H l = some (.lst xs)) (hv : xs[xs.length - 1]? = some v) (k : ∀ H1, Ex H H1 → D.nx σ (L2.upd H1 l (.lst xs.dropLast))) : tDrop (tBM0 K "list" rPop ta) D σ H :=
  ha H (Ex.refl H) _ fun H1 e1 => ⟨.inl ⟨rfl, xs, sq_of (e1 _ _ hl)⟩, l, xs, v, rfl, rfl, e1 _ _ hl, hv, k H1 e1⟩
theorem q_popD (ha : Ev ta σ H (.ref l)) (hl : H l = some (.lst xs)) (hv : xs[xs.length - 1]? = some v) (k : ∀ H1, Ex H H1 → tz D σ (L2.upd H1 l (.lst xs.dropLast))) : tSeq (tDrop (tBM0 K "list" rPop ta)) tz D σ H := s_popD (D := { D with nx := tz D }) ha hl hv k
theorem eu_cat (ha : EvU ta σ H xs) (hb : ∀ H1, Ex H H1 → EvU tb σ H1 ys) (hx : xs ≠ []) (hl : xs.length + ys.length ≤ 100000) : EvU (tOp (rCatT K) ta tb) σ H (xs ++ ys) := fun H1 e Q q =>
  ha H1 e _ fun r H2 hr e2 h2 => hb H2 (e.trans e2) H2 (Ex.refl H2) _ fun pp H3 hp e3 h3 => by
    refine ⟨r, pp, xs, ys, rfl, rfl, st_of (e3 _ _ h2), st_of h3, hx, sz_of hl, fun z => ?_, fun _ l hl => q l _ (fresh_back (e2.trans e3) hl) ((e2.trans e3).trans (Ex.new hl)) upd_same⟩
    refine q r H3 hr (e2.trans e3) ?_
    rw [z, List.append_nil]
    exact e3 _ _ h2
def spShared (C : Addr) : Sp := fun vs H Q _ => ∃ (a sg : Addr) (c : Ce) (tx : List (Key × V)) (st : List Nd) (n m : Nat) (r : List RowN), vs = [.ref a, .int (n : Int)] ∧ StoreAt C H a sg c tx st ∧ ShRun st m [] [] [n] r ∧ ∀ p ads H', H p = none → Ex H H' → H' p = some (.tup (ads.map V.ref)) → RowsT H' ads r → Q (.ref p) H'
theorem filt_mem {ms : List (Nat × Nat)} {l : List Nat} (h : ∀ p ∈ l, lk ms p ≠ none) : l.filter (fun p => decide (lk ms p = none)) = [] := List.filter_eq_nil_iff.mpr fun p hp => by simpa using h p hp
theorem not_mK (ms : List (Nat × Nat)) (p : Nat) : (!(valV (mK ms) (Sum.inl (p : Int))).isSome) = decide (lk ms p = none) := by
  rw [val_mK]
  cases lk ms p <;> rfl
theorem scSha : FnScope ["self", "term", "places", "rows", "due", "node", "part", "waiting"] ["self", "term"] (defScope (sTer 15)) := ⟨rfl, rfl, rfl, by decide +kernel, rfl, by decide +kernel, by decide +kernel⟩
theorem ok_shared {f : Addr} {fd : FuncData} (F0 : Fun K "shared" "Terms.shared" (sTer 15) f fd) (S : TermC K C) (N : Nm mg) (M : NmS mg) (ME : NmE mg) : FnOk P w K mg base CX0 1 f fd ["self", "term"] (spShared C) := by
  refine F0.ok scSha (fun vs H Q E h => ?_) (fun cdv A outer s H vs Q E hr h => ?_)
  · obtain ⟨a, sg, c, tx, st, n, m, r, rfl, _⟩ := h
    rfl
  · obtain ⟨a, sg, c, tx, st, n, m0, r, rfl, hS, hrun, k⟩ := h
    have hu := hu_of hr
    obtain ⟨mG, mN, mT, mW, mP, mKi, mS, mL⟩ := mem_f (c := c) (sg := sg)
    refine ⟨_, (pss_cons (ps_asg pe_dnewK (pg_name (i := 2) scSha.nd rfl (.inr rfl))) (pss_cons (ps_asg (pe_lst pa_nil) (pg_name (i := 3) scSha.nd rfl (.inl rfl))) (pss_cons (ps_asg (pe_lst (pa_cons (pv 1) pa_nil)) (pg_name (i := 4) scSha.nd rfl (.inl rfl))) (pss_cons (ps_while PassesOwn.never (pt_tru (pv 4)) (pss_cons (ps_asg (pe_ix (r := rIxL K) ix_list (pv 4) (pe_un un_neg pe_int) (fun _ _ => rfl)) (pg_name (i := 5) scSha.nd rfl (.inl rfl))) (pss_cons (ps_setLc (i := 7) (own := [("part", 6)]) (g := gName 6) rfl scSha.nd rfl rfl (sw_true rfl rfl rfl (by decide +kernel)) (pi_seq (pe_ix (r := rIxL K) ix_list (pe_fld (pv 0) (by rfl)) (pv 5) (fun _ _ => rfl))) (blkOk_by (own := [("part", 6)]) (N := ["self", "term", "places", "rows", "due", "node", "part", "waiting"]) (sc := defScope (sTer 15)) (by decide +kernel)) (fun _ _ _ _ _ => pg_name (i := 6) scSha.nd rfl (.inl rfl) (hf := .inr rfl)) (fun _ _ _ _ _ => pts_one (pt_cmp (pc_dnotin hu (pv 6) (pv 2)))) (fun _ _ _ _ _ => (pv 6))) (pss_one (ps_if (pt_cmp (pc_din hu (pv 5) (pv 2))) (pss_one (ps_expr (pe_bm0 PySem.F.plainAttrs_list PySem.F.slot_list_pop PySem.F.type_list_pop mt_pop (pv 4)))) (pss_one (ps_if (pt_tru (pv 7)) (pss_one (ps_expr (pe_bm PySem.F.plainAttrs_list PySem.F.slot_list_append PySem.F.type_list_append mt_append (pv 4) (pa_cons (pe_ix (r := rIxL K) ix_list (pv 7) pe_int (fun _ _ => rfl)) pa_nil)))) (pss_cons (ps_expr (pe_bm0 PySem.F.plainAttrs_list PySem.F.slot_list_pop PySem.F.type_list_pop mt_pop (pv 4))) (pss_cons (ps_dput hu (pv 2) (pv 5) (pe_callB (r := rLenS K) call_len_seq (by rfl) N.len PySem.boot_len (pa_cons (pv 3) pa_nil)) rfl) (pss_one (ps_expr (pe_bm PySem.F.plainAttrs_list PySem.F.slot_list_append PySem.F.type_list_append mt_append (pv 3) (pa_cons (pe_op (r := rCatT K) op_catT (pe_tup (pa_cons (pe_ix (r := rIxL K) ix_list (pe_fld (pv 0) (by rfl)) (pv 5) (fun _ _ => rfl)) pa_nil)) (pe_callTy (T := "tuple") (call_tupK (K := K) rfl) (by rfl) M.tuple (by decide +kernel) (pa_cons (pe_lc (own := [("part", 6)]) (g := gName 6) rfl scSha.nd (pi_seq (pe_ix (r := rIxL K) ix_list (pe_fld (pv 0) (by rfl)) (pv 5) (fun _ _ => rfl))) (blkOk_by (own := [("part", 6)]) (N := ["self", "term", "places", "rows", "due", "node", "part", "waiting"]) (sc := defScope (sTer 15)) (by decide +kernel)) (fun _ _ _ _ _ => pg_name (i := 6) scSha.nd rfl (.inl rfl) (hf := .inr rfl)) (fun _ _ _ _ _ => pts_nil) (fun _ _ _ _ _ => (pe_dget hu (pv 2) (pv 6) (fun _ _ => rfl)))) pa_nil))) pa_nil))))))))))))) (pss_one (ps_ret (pe_callTy (T := "tuple") (call_tupK (K := K) rfl) (by rfl) M.tuple (by decide +kernel) (pa_cons (pv 3) pa_nil)))))))), ?_⟩
    refine q_asgD ed_new fun ps H1 n1 e1 h1 => ?_
    refine q_asgL (el_lst ea_nil (by decide)) fun pf H2 n2 e2 h2 => ?_
    refine q_asgL (xs := [.int (n : Int)]) (el_lst (ea_cons (ev_var rfl) ea_nil) (by simp)) fun pd H3 n3 e3 h3 => ?_
    have hs3 := e3 _ _ (e2 _ _ h1)
    have hf3 := e3 _ _ h2
    have x1 : H ps = none := n1
    have x2 : H pf = none := fresh_back e1 n2
    have x3 : H pd = none := fresh_back (e1.trans e2) n3
    have d12 : ps ≠ pf := fun z => by rw [← z, h1] at n2; cases n2
    have d13 : ps ≠ pd := fun z => by rw [← z, e2 _ _ h1] at n3; cases n3
    have d23 : pf ≠ pd := fun z => by rw [← z, h2] at n3; cases n3
    let St := fun (ms : List (Nat × Nat)) (rows : List RowN) (due : List Nat) (σ' : L2.St) (H' : Hp) => ∃ (ads : List Addr) (u5 u6 u7 : Option V), σ' = [some (.ref a), some (.int (n : Int)), some (.ref ps), some (.ref pf), some (.ref pd), u5, u6, u7] ∧ Ex H H' ∧ H' ps = some (.dK (mK ms)) ∧ H' pf = some (.lst (ads.map V.ref)) ∧ RowsT H' ads rows ∧ H' pd = some (.lst (nV due))
    refine q_while (fun m σ' H' => ∃ ms rows due, ShRun st m ms rows due r ∧ St ms rows due σ' H') m0 ⟨[], [], [n], hrun, [], none, none, none, rfl, (e1.trans e2).trans e3, hs3, hf3, ⟨rfl, fun i q r z => by cases z⟩, h3⟩ (fun m σ' H' p => ?_)
    obtain ⟨ms, rows, due, hrun, ads, u5, u6, u7, rfl, e, hs, hf, hR, hd⟩ := p
    refine ⟨_, et_truL (ev_var rfl) (sq_of hd), fun hb G1 g1 => ?_, fun hb G1 g1 => ?_⟩
    · -- the head of a turn
      have head : ∀ {n1 : Nat} {ds : List Nat} {x : Nd} {D : Ends} {tu tw : TS}, due = ds ++ [n1] → st[n1]? = some x → lk ms n1 = none → x.ps.length ≤ 100 →
          (∀ (pw : Addr) (G : Hp), Ex H' G → G pw = some (.lst (nV (x.ps.filter fun p => decide (lk ms p = none)))) → tw D [some (.ref a), some (.int (n : Int)), some (.ref ps), some (.ref pf), some (.ref pd), some (.int (n1 : Int)), u6, some (.ref pw)] G) →
          tSeq (tAsg (tOp (rIxL K) (tVar 4) (tUn (rU fun i => .int (-i)) (tC (.int 1)))) (gName 5)) (tSeq (tAsg (tLc (iSeq K (tOp (rIxL K) (tFld K (tVar 0) "_parts") (tVar 5))) (gName 6) (tTest (tDNotIn (tVar 6) (tVar 2))) (tVar 6) [6]) (gName 7)) (tIfS (tTest (tDIn (tVar 5) (tVar 2))) tu tw)) D [some (.ref a), some (.int (n : Int)), some (.ref ps), some (.ref pf), some (.ref pd), u5, u6, u7] G1 := by
        intro n1 ds x D tu tw hdu hx hno hpl kk
        have hd1 := g1 _ _ hd
        rw [hdu] at hd1
        refine q_asg (v := .int (n1 : Int)) (ev_op (ev_var rfl) (ev_un ev_c ru_neg) (rv_ixL (sq_of hd1) (by rw [nV_app]; exact atI_last))) fun G2 g2 => ?_
        have e2 := (e.trans g1).trans g2
        obtain ⟨ads', a1, a2, a3⟩ := (hS.mono e2).p
        obtain ⟨q, hq⟩ : ∃ q, ads'[n1]? = some q := ⟨_, List.getElem?_eq_getElem (by have := (List.getElem?_eq_some_iff.mp hx).1; omega)⟩
        refine q_asgL (el_lcSF (xs := nV x.ps) x.ps (fun p => decide (lk ms p = none)) (fun p : Nat => V.int (p : Int)) (ev_op (ev_tfl S (ev_var rfl) (hS.mono e2).at_ mP (by decide)) (ev_var rfl) (rv_ixL (v := .ref q) (sq_of a1) (atI_nat (by rw [List.getElem?_map, hq]; rfl)))) (.inr (st_of (a3 n1 q x hq hx))) (by simp) (by omega) (fun _ => rfl) (fun i v y G3 g3 hv hy => ?_) (fun i v y G3 g3 hv hy _ => ?_)) fun pw G4 npw g4 hpw => ?_
        · rw [List.getElem?_map, hy] at hv
          obtain rfl := Option.some.inj hv
          exact et_is (et_test (ev_dnotin (k := Sum.inl (y : Int)) (ev_var rfl) (ev_var rfl) (.inl (g3 _ _ (g2 _ _ (g1 _ _ hs)))))) (not_mK ms y)
        · rw [List.getElem?_map, hy] at hv
          obtain rfl := Option.some.inj hv
          exact ev_var rfl
        · refine s_if (b := false) (et_is (et_test (ev_din (k := Sum.inl (n1 : Int)) (ev_var rfl) (ev_var rfl) (g4 _ _ (g2 _ _ (g1 _ _ hs))))) (by rw [val_mK, hno]; rfl)) (fun z => by cases z) (fun _ G5 g5 => ?_)
          exact kk pw G5 (((g1.trans g2).trans g4).trans g5) (g5 _ _ hpw)
      cases hrun with
      | done => cases hb
      | @push m n1 q qs ds _ _ _ x hx hno hfil hpl hdl hrun =>
        refine ⟨fun σ2 H2 => ∃ m', m' < m + 1 ∧ ∃ ms rows due, ShRun st m' ms rows due r ∧ St ms rows due σ2 H2, fun σ2 H2 z => z, ?_⟩
        refine head rfl hx hno hpl fun pw G2 g2 hpw => ?_
        rw [hfil] at hpw
        refine s_if (b := true) (et_truL (xs := nV (q :: qs)) (ev_var rfl) (sq_of hpw)) (fun _ G3 g3 => ?_) (fun z => by cases z)
        have g23 := g2.trans g3
        refine s_app (v := .int (q : Int)) (g23 _ _ hd) (ev_var rfl) (ev_op (ev_var rfl) ev_c (rv_ixL (sq_of (g3 _ _ hpw)) (atI_nat (j := 0) rfl))) (by simp; omega) fun G4 g4 => ?_
        have g24 := g23.trans g4
        refine ⟨m, Nat.lt_succ_self m, ms, rows, ds ++ [n1] ++ [q], hrun, ads, _, _, _, rfl, (e.trans g24).mut x3, by rw [upd_ne d13]; exact g24 _ _ hs, by rw [upd_ne d23]; exact g24 _ _ hf, (hR.mono g24).upd (g24 _ _ hd) (fun _ z => by cases z), ?_⟩
        rw [upd_same, nV_app (ds ++ [n1])]
        rfl
      | @place m n1 ds _ _ _ x hx hno hall hpl hdl z1 z2 hrun =>
        refine ⟨fun σ2 H2 => ∃ m', m' < m + 1 ∧ ∃ ms rows due, ShRun st m' ms rows due r ∧ St ms rows due σ2 H2, fun σ2 H2 z => z, ?_⟩
        refine head rfl hx hno hpl fun pw G2 g2 hpw => ?_
        rw [filt_mem hall] at hpw
        refine s_if (b := false) (et_truL (xs := nV []) (ev_var rfl) (sq_of hpw)) (fun z => by cases z) (fun _ G3 g3 => ?_)
        have g23 := g2.trans g3
        refine q_popD (ev_var rfl) (g23 _ _ hd) (nV_last ds n1) fun G4 g4 => ?_
        rw [nV_drop]
        have g24 := g23.trans g4
        have e4 : Ex H (L2.upd G4 pd (.lst (nV ds))) := (e.trans g24).mut x3
        have hs4 : (L2.upd G4 pd (.lst (nV ds))) ps = some (.dK (mK ms)) := by rw [upd_ne d13]; exact g24 _ _ hs
        have hf4 : (L2.upd G4 pd (.lst (nV ds))) pf = some (.lst (ads.map V.ref)) := by rw [upd_ne d23]; exact g24 _ _ hf
        have hR4 : RowsT (L2.upd G4 pd (.lst (nV ds))) ads rows := (hR.mono g24).upd (g24 _ _ hd) (fun _ z => by cases z)
        have hd4 : (L2.upd G4 pd (.lst (nV ds))) pd = some (.lst (nV ds)) := upd_same
        generalize hgn4 : L2.upd G4 pd (.lst (nV ds)) = G5 at e4 hs4 hf4 hR4 hd4
        refine q_dput (k := Sum.inl (n1 : Int)) (v := .int (rows.length : Int)) (ev_is (ev_len (ev_var rfl) (sq_of hf4)) (by rw [List.length_map, hR4.len])) (ev_var rfl) (ev_var rfl) hs4 (by unfold mK; rw [List.length_map]; omega) fun G6 g6 => ?_
        rw [put_mK hno]
        -- the row is told of the places ahead of this one
        have e6 : Ex H (L2.upd G6 ps (.dK (mK (ms ++ [(n1, rows.length)])))) := (e4.trans g6).mut x1
        have hs6 : (L2.upd G6 ps (.dK (mK (ms ++ [(n1, rows.length)])))) ps = some (.dK (mK (ms ++ [(n1, rows.length)]))) := upd_same
        have hf6 : (L2.upd G6 ps (.dK (mK (ms ++ [(n1, rows.length)])))) pf = some (.lst (ads.map V.ref)) := by rw [upd_ne (Ne.symm d12)]; exact g6 _ _ hf4
        have hR6 : RowsT (L2.upd G6 ps (.dK (mK (ms ++ [(n1, rows.length)])))) ads rows := (hR4.mono g6).upd (g6 _ _ hs4) (fun _ z => by cases z)
        have hd6 : (L2.upd G6 ps (.dK (mK (ms ++ [(n1, rows.length)])))) pd = some (.lst (nV ds)) := by rw [upd_ne (Ne.symm d13)]; exact g6 _ _ hd4
        generalize hgn6 : L2.upd G6 ps (.dK (mK (ms ++ [(n1, rows.length)]))) = G7 at e6 hs6 hf6 hR6 hd6
        have hS7 := hS.mono e6
        obtain ⟨ads', a1, a2, a3⟩ := hS7.p
        obtain ⟨q, hq⟩ : ∃ q, ads'[n1]? = some q := ⟨_, List.getElem?_eq_getElem (by have := (List.getElem?_eq_some_iff.mp hx).1; omega)⟩
        have hrow : EvU (tOp (rCatT K) (tTup (tCons (tOp (rIxL K) (tFld K (tVar 0) "_words") (tVar 5)) tNil)) (tCB (rTupSq K) (tCons (tLc (iSeq K (tOp (rIxL K) (tFld K (tVar 0) "_parts") (tVar 5))) (gName 6) tYes (tDGet (tVar 2) (tVar 6)) [6]) tNil))) [some (.ref a), some (.int (n : Int)), some (.ref ps), some (.ref pf), some (.ref pd), some (.int (n1 : Int)), u6, some (.ref pw)] G7 (rowV (x.w, x.ps.map fun p => (lk ms p).getD 0)) := by
          refine eu_cat (xs := [.str x.w]) (ys := nV (x.ps.map fun p => (lk ms p).getD 0)) (eu_tup (ea_cons (ev_op (ev_tfl S (ev_var rfl) hS7.at_ mW (by decide)) (ev_var rfl) (rv_ixL (v := .str x.w) (sq_of hS7.w) (atI_nat (by rw [List.getElem?_map, hx]; rfl)))) ea_nil) (by simp)) (fun G8 g8 => ?_) (by simp) (by simp; omega)
          have hS8 := hS7.mono g8
          refine eu_tupN ?_
          unfold nV
          rw [List.map_map]
          refine el_lcSM (xs := nV x.ps) x.ps _ (ev_op (ev_tfl S (ev_var rfl) hS8.at_ mP (by decide)) (ev_var rfl) (rv_ixL (v := .ref q) (sq_of (g8 _ _ a1)) (atI_nat (by rw [List.getElem?_map, hq]; rfl)))) (.inr (st_of (g8 _ _ (a3 n1 q x hq hx)))) (by simp) (by omega) (fun _ => rfl) fun i v y G9 g9 hv hy => ?_
          rw [List.getElem?_map, hy] at hv
          obtain rfl := Option.some.inj hv
          have hy2 := hall y (List.mem_of_getElem? hy)
          obtain ⟨u, hu⟩ : ∃ u, lk ms y = some u := by
            cases hlk : lk ms y with
            | none => exact absurd hlk hy2
            | some u => exact ⟨u, rfl⟩
          have hlk2 : lk (ms ++ [(n1, rows.length)]) y = some u := by
            unfold lk at hu ⊢
            obtain ⟨p, hp, hpu⟩ := Option.map_eq_some_iff.mp hu
            rw [List.find?_append, hp]
            exact congrArg some hpu
          refine ev_dget (k := Sum.inl (y : Int)) (ev_var rfl) (ev_var rfl) (g9 _ _ (g8 _ _ hs6)) ?_
          rw [val_mK, hlk2]
          show _ = some (V.int (((lk ms y).getD 0 : Nat) : Int))
          rw [hu]
          rfl
        refine s_appU hf6 (ev_var rfl) hrow (by rw [List.length_map, hR6.len]; omega) fun pq G8 npq g8 hpq => ?_
        have npf : pq ≠ pf := fun z => by rw [z, hf6] at npq; cases npq
        refine ⟨m, Nat.lt_succ_self m, _, _, ds, hrun, ads ++ [pq], _, _, _, rfl, (e6.trans g8).mut x2, by rw [upd_ne d12]; exact g8 _ _ hs6, by rw [upd_same, List.map_append]; rfl, ?_, by rw [upd_ne (Ne.symm d23)]; exact g8 _ _ hd6⟩
        exact ((hR6.mono g8).upd (g8 _ _ hf6) (fun _ z => by cases z)).snoc (by rw [upd_ne npf]; exact hpq)
    · cases hrun with
      | done => exact s_retU (eu_tupL (ev_var rfl) (sq_of (g1 _ _ hf))) fun p G2 np g2 hp => k p ads G2 (fresh_back (e.trans g1) np) ((e.trans g1).trans g2) hp (hR.mono (g1.trans g2))
      | push _ _ _ _ _ _ => rw [nV_ne] at hb; cases hb
      | place _ _ _ _ _ _ _ _ => rw [nV_ne] at hb; cases hb
end
end K87
-- T12
namespace K87
open PySem PySem.Spec PyProof.Rows L2 Evl KEv TL KDd KSq KSame KTxt KNew KRvT KEnumT KD
/-! _of_row -/
section
variable {α : Type} {K : PySem.W.Frag} {σ : L2.St} {H : Hp} {D : Ends} {tz tu : TS} {te tl : TE} {t : TT} {j m : Nat} {vs : List Nat} {xs : List V} {a : Addr} {tlo thi : TO}
/-- a list comprehension over a new tuple -/
theorem el_lcUF (f : Nat → Bool) (v : Nat → V) (h : EvU tl σ H xs) (hz : xs.length ≤ 40000) (hw : ∀ x, wipe ((wipe σ vs).set j (some x)) vs = wipe σ vs)
    (ht : ∀ (i : Nat) (x : V) H1, Ex H H1 → xs[i]? = some x → EvT t ((wipe σ vs).set j (some x)) H1 (f i)) (he : ∀ (i : Nat) (x : V) H1, Ex H H1 → xs[i]? = some x → f i = true → Ev te ((wipe σ vs).set j (some x)) H1 (v i)) :
    EvL (tLc (iSeq K tl) (gName j) t te vs) σ H (given xs.length f v) := fun H0 e Q q => .inr (h H0 e _ fun a H1 ha e1 hx => ⟨a, rfl, ⟨xs, st_of hx⟩, fun Dl hD =>
  lc_tup (xs := xs) (Cw H1 f v Dl) ⟨hD, Ex.new hD, upd_same⟩ (fun i H' _ p => st_of (p.2.1 a _ hx)) (fun i x H' hi p => ⟨hw x, cw_turn p (by have := (List.getElem?_eq_some_iff.mp hi).1; omega) (ht i x H1 (e.trans e1) hi) (fun hf => he i x H1 (e.trans e1) hi hf)⟩)
    (fun H' p => q Dl H' (fresh_back e1 p.1) (e1.trans p.2.1) p.2.2)⟩)
theorem el_lcUM (l : List α) (f : α → V) (h : EvU tl σ H xs) (hl : xs.length = l.length) (hz : l.length ≤ 40000) (hw : ∀ x, wipe ((wipe σ vs).set j (some x)) vs = wipe σ vs)
    (he : ∀ (i : Nat) (x : V) (r : α) H1, Ex H H1 → xs[i]? = some x → l[i]? = some r → Ev te ((wipe σ vs).set j (some x)) H1 (f r)) : EvL (tLc (iSeq K tl) (gName j) tYes te vs) σ H (l.map f) := by
  have e0 := given_l (p := fun _ : α => true) (f := f) hl
  rw [List.filter_eq_self.mpr fun _ _ => rfl] at e0
  rw [← e0]
  refine el_lcUF (pAt l _) (vAt l f) h (by omega) hw (fun i x H1 e hi => ?_) (fun i x H1 e hi hf => ?_)
  · obtain ⟨r, er⟩ : ∃ r, l[i]? = some r := ⟨_, List.getElem?_eq_getElem (by have := (List.getElem?_eq_some_iff.mp hi).1; omega)⟩
    have e1 : pAt l (fun _ : α => true) i = true := by
      unfold pAt
      rw [er]
    rw [e1]
    exact fun H2 _ Q q => q H2 (Ex.refl H2)
  · obtain ⟨r, er⟩ : ∃ r, l[i]? = some r := ⟨_, List.getElem?_eq_getElem (by have := (List.getElem?_eq_some_iff.mp hi).1; omega)⟩
    have e2 : vAt l f i = f r := by
      unfold vAt
      rw [er]
    rw [e2]
    exact he i x r H1 e hi er
/-- a tuple's slice, not the whole -/
theorem eu_sl {lo hi : Option Int} (h : Ev te σ H (.ref a)) (h1 : EvO tlo σ H lo) (h2 : EvO thi σ H hi) (hs : SqT K H a xs) (hn : ¬ (HT.sIx xs.length 0 lo = 0 ∧ HT.sIx xs.length xs.length hi = xs.length)) : EvU (tSl (rSlT K) te tlo thi) σ H (cutV xs lo hi) := fun H1 e _ q =>
  h H1 e _ fun H2 e2 => h1 H2 (e.trans e2) _ fun H3 e3 => h2 H3 ((e.trans e2).trans e3) _ fun H4 e4 =>
    ⟨a, xs, rfl, ex_t (((e.trans e2).trans e3).trans e4) hs, hn, fun p hp => q p _ (fresh_back ((e2.trans e3).trans e4) hp) (((e2.trans e3).trans e4).trans (Ex.new hp)) upd_same⟩
theorem s_forEnumT (h : Ev tl σ H (.ref a)) (hx : SqT K H a xs) (Pv : Nat → L2.St → Hp → Prop) (h0 : ∀ H1, Ex H H1 → Pv 0 σ H1) (hp : ∀ i σ' H', Pv i σ' H' → SqT K H' a xs)
    (hs : ∀ (i : Nat) x σ' H' H2, xs[i]? = some x → Pv i σ' H' → Ex H' H2 → tu { D with nx := Pv (i + 1), ct := Pv (i + 1), bk := D.nx } ((σ'.set j (some (.int (i : Int)))).set m (some x)) H2) (hd : ∀ σ' H', Pv xs.length σ' H' → D.nx σ' H') :
    tFor (iEnumT K (tCons tl tNil)) (gTup K 2 (gCons (gName j) (gCons (gName m) gNil))) tu D σ H :=
  h H (Ex.refl H) _ fun H1 e1 => ⟨a, xs, rfl, ex_t e1 hx, for_it walk_enumT Pv (h0 H1 e1) (fun i σ' H' _ p => hp i σ' H' p) (fun i v σ' H2 H3 hi p y => by
    obtain ⟨T, x, z, rfl, hT, rfl, ex, ez⟩ := y
    obtain rfl := (Option.some.inj ex)
    exact ⟨T, _, rfl, st_of upd_same, rfl, _, _, rfl, _, _, rfl, rfl, hs i z σ' H2 _ ez p (Ex.new hT)⟩) hd⟩
theorem q_forEnumT (h : Ev tl σ H (.ref a)) (hx : SqT K H a xs) (Pv : Nat → L2.St → Hp → Prop) (h0 : ∀ H1, Ex H H1 → Pv 0 σ H1) (hp : ∀ i σ' H', Pv i σ' H' → SqT K H' a xs)
    (hs : ∀ (i : Nat) x σ' H' H2, xs[i]? = some x → Pv i σ' H' → Ex H' H2 → tu { D with nx := Pv (i + 1), ct := Pv (i + 1), bk := tz D } ((σ'.set j (some (.int (i : Int)))).set m (some x)) H2) (hd : ∀ σ' H', Pv xs.length σ' H' → tz D σ' H') :
    tSeq (tFor (iEnumT K (tCons tl tNil)) (gTup K 2 (gCons (gName j) (gCons (gName m) gNil))) tu) tz D σ H :=
  s_forEnumT (D := { D with nx := tz D }) h hx Pv h0 hp hs hd
end
abbrev RowI := Str × List Int
def rowI (r : RowI) : List V := V.str r.1 :: r.2.map V.int
def kdOf (st : List Nd) (i : Nat) : Option Str := st[i]?.map (·.kd)
/-- the wanted sorts of a row's parts -/
def wants (signs : List Sgn) (x : Str) : List Str := if capH x then [] else argsOf signs x
def partOk (st : List Nd) (nums : List Nat) (r : List Int) (us : List Str) (j : Nat) : Bool := match r[j]?, us[j]? with
  | some i, some u => decide (0 ≤ i) && decide (i < (nums.length : Int)) && decide (kdOf st (nums.getD i.toNat 0) = some u)
  | _, _ => false
def rowOk (sorts : List Row) (signs : List Sgn) (st : List Nd) (nums : List Nat) (r : RowI) : Prop := (wordSort sorts signs r.1 300).isSome = true ∧ r.2.length = (wants signs r.1).length ∧ ∀ j, j < r.2.length → partOk st nums r.2 (wants signs r.1) j = true
def rowPs (nums : List Nat) (r : RowI) : List Nat := r.2.map fun i => nums.getD i.toNat 0
section
variable {P : Program} {w : World} {K : PySem.W.Frag} {mg : Str → Option Value} {base : Heap} {C CS : Addr} {ec : EK → Addr}
def spOfRow (C CS : Addr) : Sp := fun vs H Q _ => ∃ (a sg b l : Addr) (c : Ce) (tx : List (Key × V)) (st : List Nd) (r : RowI) (nums : List Nat) (L : List Str) (sorts : List Row) (signs : List Sgn) (pc ps pa pr : Addr) (sgn : List (Sgn × Addr)), vs = [.ref a, .ref b, .ref l] ∧ StoreAt C H a sg c tx st ∧ SigAt CS H sg sorts signs pc ps pa pr sgn ∧ H b = some (.tup (rowI r)) ∧ H l = some (.lst (nV nums)) ∧
  Wd L st ∧ 1 ≤ r.1.length ∧ r.1.length ≤ 400 ∧ (∀ g ∈ signs, capH g.1 = false ∧ g.2.1.length ≤ 4) ∧ (capH r.1 = true → (wordSort sorts signs r.1 300).isSome = true → r.1 ∈ L) ∧ (∀ n ∈ nums, n < st.length) ∧
  (¬ rowOk sorts signs st nums r → RetV .non H Q) ∧ (rowOk sorts signs st nums r → ∀ kd, wordSort sorts signs r.1 300 = some kd → ∀ H', ExB (cells c) H H' → StoreAt C H' a sg c tx (putS st r.1 (rowPs nums r) kd).1 → Q (.int ((putS st r.1 (rowPs nums r) kd).2 : Int)) H')
theorem sign_of {sorts : List Row} {signs : List Sgn} {x kd : Str} {n : Int} (h : wordSort sorts signs x n = some kd) (hc : capH x = false) : ∃ g, signs.find? (fun g => decide (g.1 = x)) = some g ∧ g.1 = x := by
  unfold wordSort at h
  cases hf : signs.find? (fun g => decide (g.1 = x)) with
  | some g =>
    have := List.find?_some hf
    exact ⟨g, rfl, by simpa using this⟩
  | none =>
    rw [hf] at h
    have h : (if letterB (tl x) n = true then _ else none) = some kd := h
    by_cases hl : letterB (tl x) n = true
    · exfalso
      unfold letterB at hl
      simp only [Bool.and_eq_true] at hl
      have : headIn (tl capitals) (tl x) = true := hl.1.1.2
      unfold capH at hc
      rw [this] at hc
      cases hc
    · rw [if_neg hl] at h
      cases h
theorem cut1 (v : V) (xs : List V) : cutV (v :: xs) (some 1) none = xs := by
  have := cutV_drop (xs := v :: xs) (k := 1)
  simpa using this
theorem scOrw : FnScope ["self", "row", "numbers", "kind", "wanted", "place", "kind_due", "at"] ["self", "row", "numbers"] (defScope (sTer 17)) := ⟨rfl, rfl, rfl, by decide +kernel, rfl, by decide +kernel, by decide +kernel⟩
theorem ok_of_row {f fw fa fp : Addr} {fd fdw fda fdp : FuncData} {dw da dp : List Value} (F0 : Fun K "_of_row" "Terms._of_row" (sTer 17) f fd) (S : TermC K C) (SS : SigC K CS) (N : Nm mg) (M : NmS mg) (ME : NmE mg) (W2 : MethAt P w K mg base CX0 2 CS "sort_of_word" ["self", "word", "digits"] [] (spSortW CS) fw fdw dw) (AR : MethAt P w K mg base (L2N.CX P w) 1 CS "arguments" ["self", "sign"] [] (spLook ec CS "_arguments") fa fda da) (PT : MethAt P w K mg base CX0 6 C "_put" ["self", "word", "parts", "kind"] [] (spPut C) fp fdp dp) :
    FnOk P w K mg base CX0 7 f fd ["self", "row", "numbers"] (spOfRow C CS) := by
  obtain ⟨tc, gC⟩ := N.CAPITALS
  refine F0.ok scOrw (fun vs H Q E h => ?_) (fun cdv A outer s H vs Q E hr h => ?_)
  · obtain ⟨a, sg, b, l, c, tx, st, r, nums, L, sorts, signs, pc, ps, pa, pr, sgn, rfl, _⟩ := h
    rfl
  · obtain ⟨a, sg, b, l, c, tx, st, r, nums, L, sorts, signs, pc, ps, pa, pr, sgn, rfl, hS, hG, hb, hl, W, x1, x2, hsg, hcL, hnum, kn, ky⟩ := h
    have hu := hu_of hr
    obtain ⟨mG, mN, mT, mW, mP, mKi, mS, mL⟩ := mem_f (c := c) (sg := sg)
    obtain ⟨x, is⟩ := r
    refine ⟨_, (pss_cons (ps_if (pt_not (pt_tru (pv 1))) (pss_one (ps_ret pe_non)) pss_nil) (pss_cons (ps_asg (pe_meth (pe_fld (pv 0) (by rfl)) SS.cl W2.m W2.F (hr.mono (by decide)) W2.b W2.v pass0 (pa_cons (pe_ix (r := rIxT K) ix_tup (pv 1) pe_int (fun _ _ => rfl)) (pa_cons pe_int pa_nil))) (pg_name (i := 3) scOrw.nd rfl (.inl rfl))) (pss_cons (ps_if (pt_cmpR op_isNon (pv 3) pe_non (nomark _)) (pss_one (ps_ret pe_non)) pss_nil) (pss_cons (ps_asg (pe_tup pa_nil) (pg_name (i := 4) scOrw.nd rfl (.inl rfl))) (pss_cut (ps_if (pt_cmpR op_niS (pe_ix ix_str (pe_ix (r := rIxT K) ix_tup (pv 1) pe_int (fun _ _ => rfl)) pe_int (fun _ _ => rfl)) (pe_glob (v := .str capitals) (by rfl) gC relS) rfl) (pss_one (ps_asg (pe_meth (pe_fld (pv 0) (by rfl)) SS.cl AR.m AR.F (hr.mono (by decide)) AR.b AR.v passF (pa_cons (pe_ix (r := rIxT K) ix_tup (pv 1) pe_int (fun _ _ => rfl)) pa_nil)) (pg_name (i := 4) scOrw.nd rfl (.inl rfl)))) pss_nil) (pss_cons (ps_if (pt_cmpR op_ne (pe_callB (r := rLenS K) call_len_seq (by rfl) N.len PySem.boot_len (pa_cons (pv 1) pa_nil)) (pe_op op_add (pe_callB (r := rLenS K) call_len_seq (by rfl) N.len PySem.boot_len (pa_cons (pv 4) pa_nil)) pe_int) (nomark _)) (pss_one (ps_ret pe_non)) pss_nil) (pss_cons (ps_for PassesOwn.never rfl (pi_enumT (by rfl) ME.enumerate (pa_cons (pv 4) pa_nil)) (pg_tup rfl (pgs_cons (pg_name (i := 5) scOrw.nd rfl (.inl rfl)) (pgs_cons (pg_name (i := 6) scOrw.nd rfl (.inl rfl)) pgs_nil))) (pss_cons (ps_asg (pe_ix (r := rIxT K) ix_tup (pv 1) (pe_op op_add (pv 5) pe_int) (fun _ _ => rfl)) (pg_name (i := 7) scOrw.nd rfl (.inl rfl))) (pss_one (ps_if (PW.pt (pw_or (pt_not (pt_chain op_le op_lt pe_int (pv 7) (pe_callB (r := rLenS K) call_len_seq (by rfl) N.len PySem.boot_len (pa_cons (pv 2) pa_nil)))) (pw_or1 (pt_cmpR op_ne (pe_ix (r := rIxL K) ix_list (pe_fld (pv 0) (by rfl)) (pe_ix (r := rIxL K) ix_list (pv 2) (pv 7) (fun _ _ => rfl)) (fun _ _ => rfl)) (pv 6) (nomark _))))) (pss_one (ps_ret pe_non)) pss_nil)))) (pss_one (ps_ret (pe_meth (pv 0) S.cl PT.m PT.F (hr.mono (by decide)) PT.b PT.v pass0 (pa_cons (pe_ix (r := rIxT K) ix_tup (pv 1) pe_int (fun _ _ => rfl)) (pa_cons (pe_callTy (T := "tuple") (call_tupK (K := K) rfl) (by rfl) M.tuple (by decide +kernel) (pa_cons (pe_lc (own := [("at", 7)]) (g := gName 7) rfl scOrw.nd (pi_seq (pe_slice (r := rSlT K) sl_tup (pv 1) (po_some pe_int) po_none)) (blkOk_by (own := [("at", 7)]) (N := ["self", "row", "numbers", "kind", "wanted", "place", "kind_due", "at"]) (sc := defScope (sTer 17)) (by decide +kernel)) (fun _ _ _ _ _ => pg_name (i := 7) scOrw.nd rfl (.inl rfl) (hf := .inr rfl)) (fun _ _ _ _ _ => pts_nil) (fun _ _ _ _ _ => (pe_ix (r := rIxL K) ix_list (pv 2) (pv 7) (fun _ _ => rfl)))) pa_nil)) (pa_cons (pv 3) pa_nil))))))))))))), ?_⟩
    refine q_when (b := false) (et_is (et_not (et_truT (ev_var rfl) (st_of hb))) rfl) (fun z => by cases z) (fun _ H1 e1 => ?_)
    have hx0 : ∀ {G : Hp} {σ : L2.St}, Ex H G → σ[1]? = some (some (.ref b)) → Ev (tOp (rIxT K) (tVar 1) (tC (.int 0))) σ G (.str x) := fun eG h1 => ev_op (ev_var h1) ev_c (rv_ixT (st_of (eG _ _ hb)) (atI_nat (j := 0) rfl))
    refine q_asg (ev_sow2 (hG.mono e1) (ev_tfl S (ev_var rfl) (hS.mono e1).at_ mG (by decide)) (hx0 e1 rfl) ev_c (by have : x.length ≤ 400 := x2; omega)) fun H2 e2 => ?_
    have e12 := e1.trans e2
    cases hws : wordSort sorts signs x 300 with
    | none => exact q_when (b := true) (et_is (et_test (ev_op (ev_var rfl) ev_c rv_isN)) rfl) (fun _ H3 e3 => s_ret ev_c fun H4 e4 => kn (fun z => by have := z.1; rw [show ((x, is) : RowI).1 = x from rfl, hws] at this; cases this) H4 ((e12.trans e3).trans e4)) (fun z => by cases z)
    | some kd =>
      refine q_when (b := false) (et_is (et_test (ev_op (ev_var rfl) ev_c rv_isN)) rfl) (fun z => by cases z) (fun _ H3 e3 => ?_)
      have e13 := e12.trans e3
      refine q_asgU (eu_tup ea_nil (by decide)) fun p0 H4 np0 e4 hp0 => ?_
      have e14 := e13.trans e4
      obtain ⟨c0, r0, ec0, ec1⟩ := cap_test (x := x) x1
      have capT : ∀ {G : Hp} {σ : L2.St}, Ex H G → σ[1]? = some (some (.ref b)) → EvT (tTest (tOp rNiS (tOp rIxS (tOp (rIxT K) (tVar 1) (tC (.int 0))) (tC (.int 0))) (tC (.str capitals)))) σ G (!capH x) := fun eG h1 => et_is (et_test (ev_op (ev_op (hx0 eG h1) ev_c (rv_ixS (by have : x.length ≤ 400 := x2; omega) (by rw [ec0]; exact atI_nat (j := 0) rfl))) ev_c rv_niS)) (by rw [ec1])
      refine q_cut (M := fun σ H' => ∃ pw, σ = [some (.ref a), some (.ref b), some (.ref l), some (.str kd), some (.ref pw), none, none, none] ∧ Ex H H' ∧ H' pw = some (.tup ((wants signs x).map V.str))) ?_ (fun σ H5 p => ?_)
      · refine s_when (b := !capH x) (capT e14 rfl) (fun hc H5 e5 => ?_) (fun hc H5 e5 => ?_)
        · have hc : capH x = false := by simpa using hc
          have e15 := e14.trans e5
          obtain ⟨g, hg, hgx⟩ := sign_of hws hc
          obtain ⟨q, v1, v2, hq⟩ := sig_find hG hg
          refine s_asg (ev_look (hG.mono e15) (by decide) (by simp) (hG.mono e15).pa v1 (ev_tfl S (ev_var rfl) (hS.mono e15).at_ mG (by decide)) (hx0 e15 rfl)) fun H6 e6 => ⟨q, rfl, e15.trans e6, ?_⟩
          rw [e6 _ _ (e15 _ _ hq)]
          unfold wants argsOf
          rw [hc, hg]
          rfl
        · have hc : capH x = true := by simpa using hc
          refine ⟨p0, rfl, e14.trans e5, ?_⟩
          rw [e5 _ _ hp0]
          unfold wants
          rw [if_pos hc]
          rfl
      · obtain ⟨pw, rfl, e5, hpw⟩ := p
        have tlen : ∀ {G : Hp} {σ : L2.St}, Ex H5 G → σ[1]? = some (some (.ref b)) → σ[4]? = some (some (.ref pw)) → EvT (tTest (tOp rNe (tCB (rLenS K) (tCons (tVar 1) tNil)) (tOp (rI0 fun i j => .int (i + j)) (tCB (rLenS K) (tCons (tVar 4) tNil)) (tC (.int 1))))) σ G (!decide (is.length = (wants signs x).length)) := fun eG h1 h4 => by
          refine et_is (et_test (ev_op (ev_lenT2 (ev_var h1) (eG _ _ (e5 _ _ hb))) (ev_op (ev_lenT2 (ev_var h4) (eG _ _ hpw)) ev_c rv_I0) (rv_ne rfl))) ?_
          have : (rowI (x, is)).length = is.length + 1 := by unfold rowI; simp
          rw [this, List.length_map]
          congr 1
          refine decide_eq_decide.mpr ⟨fun z => ?_, fun z => ?_⟩
          · have := V.int.inj z; omega
          · rw [z]; rfl
        by_cases hlen : is.length = (wants signs x).length
        · refine q_when (b := false) (et_is (tlen (Ex.refl H5) rfl rfl) (by rw [decide_eq_true hlen]; rfl)) (fun z => by cases z) (fun _ H6 e6 => ?_)
          have e56 := e5.trans e6
          refine q_forEnumT (xs := (wants signs x).map V.str) (ev_var rfl) (st_of (e6 _ _ hpw)) (fun i σ' H' => Ex H6 H' ∧ (∀ j, j < i → partOk st nums is (wants signs x) j = true) ∧ ∃ u5 u6 u7, σ' = [some (.ref a), some (.ref b), some (.ref l), some (.str kd), some (.ref pw), u5, u6, u7]) (fun H7 e7 => ⟨e7, fun j hj => absurd hj (Nat.not_lt_zero j), none, none, none, rfl⟩) (fun i σ' H' p => st_of (p.1 _ _ (e6 _ _ hpw))) (fun i v σ' H0 H' hv p e0 => ?_) (fun σ' H' p => ?_)
          · obtain ⟨e7, hok, u5, u6, u7, rfl⟩ := p
            have e7 := e7.trans e0
            have e57 := e56.trans e7
            rw [List.getElem?_map] at hv
            obtain ⟨u, hu', rfl⟩ := Option.map_eq_some_iff.mp hv
            have hi : i < is.length := by have := (List.getElem?_eq_some_iff.mp hu').1; omega
            obtain ⟨z, hz⟩ : ∃ z, is[i]? = some z := ⟨_, List.getElem?_eq_getElem hi⟩
            show tSeq _ _ _ [some (.ref a), some (.ref b), some (.ref l), some (.str kd), some (.ref pw), some (.int (i : Int)), some (.str u), u7] H'
            refine q_asg (v := .int z) (ev_op (ev_var rfl) (ev_op (ev_var rfl) ev_c rv_I0) (rv_ixT (st_of (e57 _ _ hb)) (at_of (show (i : Int) + 1 = ((i + 1 : Nat) : Int) by omega) (by unfold rowI; rw [List.getElem?_cons_succ, List.getElem?_map, hz]; rfl)))) fun H8 e8 => ?_
            have e58 := e57.trans e8
            have hl8 := e58 _ _ hl
            have hS8 := hS.mono e58
            have tt : EvT (tOr (tNot (tTest (tChain (rI0 fun i j => .bl (decide (i ≤ j))) (rI0 fun i j => .bl (decide (i < j))) (tC (.int 0)) (tVar 7) (tCB (rLenS K) (tCons (tVar 2) tNil))))) (tTest (tOp rNe (tOp (rIxL K) (tFld K (tVar 0) "_kinds") (tOp (rIxL K) (tVar 2) (tVar 7))) (tVar 6)))) [some (.ref a), some (.ref b), some (.ref l), some (.str kd), some (.ref pw), some (.int (i : Int)), some (.str u), some (.int z)] H8 (!partOk st nums is (wants signs x) i) := by
              have hp : partOk st nums is (wants signs x) i = (decide (0 ≤ z) && decide (z < (nums.length : Int)) && decide (kdOf st (nums.getD z.toNat 0) = some u)) := by
                unfold partOk
                rw [hz, hu']
              rw [hp]
              have t1 := et_not (et_chain (ev_c (v := .int 0)) (ev_var (i := 7) (σ := [some (.ref a), some (.ref b), some (.ref l), some (.str kd), some (.ref pw), some (.int (i : Int)), some (.str u), some (.int z)]) (v := .int z) (H := H8) rfl) (rv_I0 (g := fun i j => .bl (decide (i ≤ j)))) (fun _ => ev_len (K := K) (ev_var (i := 2) rfl) (sq_of hl8)) (fun _ => rv_I0 (g := fun i j => .bl (decide (i < j)))))
              rw [List.length_map] at t1
              by_cases hb : decide (0 ≤ z) && decide (z < (nums.length : Int))
              · have hb' := hb
                rw [Bool.and_eq_true, decide_eq_true_eq, decide_eq_true_eq] at hb'
                obtain ⟨n1, hn1⟩ : ∃ n1, nums[z.toNat]? = some n1 := ⟨_, List.getElem?_eq_getElem (by omega)⟩
                obtain ⟨y, hy⟩ : ∃ y, st[n1]? = some y := ⟨_, List.getElem?_eq_getElem (hnum n1 (List.mem_of_getElem? hn1))⟩
                have hg : nums.getD z.toNat 0 = n1 := by rw [List.getD_eq_getElem?_getD, hn1]; rfl
                refine et_is (et_or t1 fun _ => et_test (ev_op (ev_op (ev_tfl S (ev_var rfl) hS8.at_ mKi (by decide)) (ev_op (ev_var rfl) (ev_var rfl) (rv_ixL (v := .int (n1 : Int)) (sq_of hl8) (at_of (show z = ((z.toNat : Nat) : Int) by omega) (by rw [List.getElem?_map, hn1]; rfl)))) (rv_ixL (v := .str y.kd) (sq_of hS8.k) (atI_nat (by rw [List.getElem?_map, hy]; rfl)))) (ev_var rfl) (rv_ne rfl))) ?_
                rw [hb, hg]
                unfold kdOf
                rw [hy]
                simp
              · have hb : (decide (0 ≤ z) && decide (z < (nums.length : Int))) = false := by simpa using hb
                refine et_is (et_or (b := true) t1 fun h => ?_) ?_
                · rw [hb] at h
                  cases h
                · rw [hb]
                  rfl
            cases hpk : partOk st nums is (wants signs x) i with
            | true =>
              rw [hpk] at tt
              refine s_when (b := false) tt (fun z => by cases z) (fun _ H9 e9 => ⟨(e7.trans e8).trans e9, fun j hj => ?_, _, _, _, rfl⟩)
              rcases Nat.lt_succ_iff_lt_or_eq.mp hj with hj | rfl
              · exact hok j hj
              · exact hpk
            | false =>
              rw [hpk] at tt
              refine s_when (b := true) tt (fun _ H9 e9 => s_ret ev_c fun H10 e10 => kn (fun z => by have := z.2.2 i hi; rw [hpk] at this; cases this) H10 ((e58.trans e9).trans e10)) (fun z => by cases z)
          · obtain ⟨e7, hok, u5, u6, u7, rfl⟩ := p
            rw [List.length_map, ← hlen] at hok
            have e57 := e56.trans e7
            have hrow : rowOk sorts signs st nums (x, is) := ⟨by rw [show ((x, is) : RowI).1 = x from rfl, hws]; rfl, hlen, hok⟩
            have hwl : (wants signs x).length ≤ 4 := by
              unfold wants
              by_cases hc : capH x = true
              · rw [if_pos hc]
                decide
              · rw [if_neg hc]
                exact args_len fun g hg => (hsg g hg).2
            have hlc : EvU (tCB (rTupSq K) (tCons (tLc (iSeq K (tSl (rSlT K) (tVar 1) (tPart (tC (.int 1))) tNoPart)) (gName 7) tYes (tOp (rIxL K) (tVar 2) (tVar 7)) [7]) tNil)) [some (.ref a), some (.ref b), some (.ref l), some (.str kd), some (.ref pw), u5, u6, u7] H' (nV (rowPs nums (x, is))) := by
              refine eu_tupN ?_
              unfold nV rowPs
              rw [List.map_map]
              refine el_lcUM (xs := is.map V.int) is _ (by
                have := eu_sl (K := K) (te := tVar 1) (tlo := tPart (tC (.int 1))) (thi := tNoPart) (σ := [some (.ref a), some (.ref b), some (.ref l), some (.str kd), some (.ref pw), u5, u6, u7]) (ev_var rfl) (eo_some ev_c) eo_none (st_of (e57 _ _ hb)) (by
                  intro z
                  have z1 := z.1
                  have : (rowI (x, is)).length = is.length + 1 := by unfold rowI; simp
                  rw [this] at z1
                  simp [HT.sIx] at z1)
                rwa [show cutV (rowI (x, is)) (some 1) none = is.map V.int from cut1 _ _] at this) (by simp) (by omega) (fun _ => rfl) fun i v z G2 g2 hv hz => ?_
              rw [List.getElem?_map, hz] at hv
              obtain rfl := Option.some.inj hv
              have hi := (List.getElem?_eq_some_iff.mp hz).1
              have hpk := hok i hi
              have hi2 : i < (wants signs x).length := by rw [← hlen]; exact hi
              obtain ⟨u, hu'⟩ : ∃ u, (wants signs x)[i]? = some u := ⟨_, List.getElem?_eq_getElem hi2⟩
              unfold partOk at hpk
              rw [hz, hu'] at hpk
              simp only [Bool.and_eq_true, decide_eq_true_eq] at hpk
              obtain ⟨n1, hn1⟩ : ∃ n1, nums[z.toNat]? = some n1 := ⟨_, List.getElem?_eq_getElem (by omega)⟩
              refine ev_op (ev_var rfl) (ev_var rfl) (rv_ixL (sq_of (g2 _ _ (e57 _ _ hl))) (at_of (show z = ((z.toNat : Nat) : Int) by omega) ?_))
              rw [List.getElem?_map, hn1]
              show _ = some (V.int ((nums.getD z.toNat 0 : Nat) : Int))
              rw [List.getD_eq_getElem?_getD, hn1]
              rfl
            refine s_retP (ep_put (ps := rowPs nums (x, is)) (hS.mono e57) W (ev_var rfl) (era_put (hx0 e57 rfl) hlc fun H8 e8 => ev_var rfl) (fun n hn => ?_) (by unfold rowPs; rw [List.length_map]; show is.length ≤ 10; omega) ⟨x1, x2⟩ (fun hc => hcL hc (by rw [show ((x, is) : RowI).1 = x from rfl, hws]; rfl))) fun v H8 x8 hv => ?_
            · unfold rowPs at hn
              obtain ⟨z, hzm, rfl⟩ := List.mem_map.mp hn
              obtain ⟨i, hz⟩ := List.getElem?_of_mem hzm
              have hi := (List.getElem?_eq_some_iff.mp hz).1
              have hpk := hok i hi
              have hi2 : i < (wants signs x).length := by rw [← hlen]; exact hi
              obtain ⟨u, hu'⟩ : ∃ u, (wants signs x)[i]? = some u := ⟨_, List.getElem?_eq_getElem hi2⟩
              unfold partOk at hpk
              rw [hz, hu'] at hpk
              simp only [Bool.and_eq_true, decide_eq_true_eq] at hpk
              obtain ⟨n1, hn1⟩ : ∃ n1, nums[z.toNat]? = some n1 := ⟨_, List.getElem?_eq_getElem (by omega)⟩
              rw [List.getD_eq_getElem?_getD, hn1]
              exact hnum n1 (List.mem_of_getElem? hn1)
            · obtain ⟨rfl, h8⟩ := hv
              exact ky hrow kd hws H8 (fun b o hb ho => x8 b o hb (e57 _ _ ho)) h8
        · exact q_when (b := true) (et_is (tlen (Ex.refl H5) rfl rfl) (by rw [decide_eq_false hlen]; rfl)) (fun _ H6 e6 => s_ret ev_c fun H7 e7 => kn (fun z => hlen z.2.1) H7 ((e5.trans e6).trans e7)) (fun z => by cases z)
end
end K87
-- T13
namespace K87
open PySem PySem.Spec PyProof.Rows L2 Evl KEv TL KDd KSq KSame KTxt KHot KSup KNew KRvT KEnumT KD
/-! from_shared -/
theorem StoreAt.updL {C : Addr} {G : Hp} {a sg p : Addr} {c : Ce} {tx : List (Key × V)} {st : List Nd} {xs : List V} {o : HO} (hS : StoreAt C G a sg c tx st) (hp : G p = some (.lst xs)) (np : p ∉ cells c) : StoreAt C (L2.upd G p o) a sg c tx st := by
  have keep : ∀ {b : Addr} {u : HO}, G b = some u → (∀ ks, u ≠ .lst ks) → (L2.upd G p o) b = some u := fun {b u} hb hu => by
    rw [upd_ne (fun z => by rw [z, hp] at hb; exact hu _ (Option.some.inj hb).symm)]
    exact hb
  have keepC : ∀ {b : Addr} {u : HO}, b ∈ cells c → G b = some u → (L2.upd G p o) b = some u := fun {b u} hc hb => by
    rw [upd_ne (fun z => np (by rw [← z]; exact hc))]
    exact hb
  obtain ⟨⟨dx, fs, h1, h2⟩, ⟨dx', fs', h3, h4⟩, h5, h6, h7, ⟨ad, p1, p2, p3⟩, h9, h10, ⟨al, l1, l2, l3⟩, h12⟩ := hS
  exact ⟨⟨dx, fs, keep h1 (fun _ z => by cases z), h2⟩, ⟨dx', fs', keep h3 (fun _ z => by cases z), h4⟩, keep h5 (fun _ z => by cases z), keep h6 (fun _ z => by cases z), keepC (by simp [cells]) h7, ⟨ad, keepC (by simp [cells]) p1, p2, fun i q x z1 z2 => keep (p3 i q x z1 z2) (fun _ z => by cases z)⟩, keepC (by simp [cells]) h9, keepC (by simp [cells]) h10, ⟨al, keepC (by simp [cells]) l1, l2, fun i q x z1 z2 => keep (l3 i q x z1 z2) (fun _ z => by cases z)⟩, h12⟩
def toI (r : RowN) : RowI := (r.1, r.2.map fun n : Nat => (n : Int))
theorem row_toI (r : RowN) : rowI (toI r) = rowV r := by
  unfold rowI rowV toI nV
  rw [List.map_map]
  rfl
structure RowsI (H : Hp) (ads : List Addr) (rows : List RowI) : Prop where
  len : ads.length = rows.length
  at_ : ∀ (i : Nat) (q : Addr) (r : RowI), ads[i]? = some q → rows[i]? = some r → H q = some (.tup (rowI r))
theorem RowsI.mono {H H' : Hp} {ads : List Addr} {rows : List RowI} (h : RowsI H ads rows) (e : Ex H H') : RowsI H' ads rows := ⟨h.len, fun i q r z1 z2 => e _ _ (h.at_ i q r z1 z2)⟩
theorem RowsI.keep {C : Addr} {H H' : Hp} {a sg : Addr} {c : Ce} {tx : List (Key × V)} {st : List Nd} {ads : List Addr} {rows : List RowI} (h : RowsI H ads rows) (hS : StoreAt C H a sg c tx st) (e : ExB (cells c) H H') : RowsI H' ads rows := ⟨h.len, fun i q r z1 z2 => e _ _ (nin_tup hS (h.at_ i q r z1 z2)) (h.at_ i q r z1 z2)⟩
theorem RowsT.toI {H : Hp} {ads : List Addr} {rows : List RowN} (h : RowsT H ads rows) : RowsI H ads (rows.map K87.toI) := ⟨by rw [List.length_map]; exact h.len, fun i q r z1 z2 => by
  rw [List.getElem?_map] at z2
  obtain ⟨r', hr, rfl⟩ := Option.map_eq_some_iff.mp z2
  rw [row_toI]
  exact h.at_ i q r' z1 hr⟩
def rowD (r : RowI) : PyData := .tuple (.str r.1 :: r.2.map PyData.int)
theorem eqv_ints : ∀ a b : List Int, PyData.eqvAll (a.map PyData.int) (b.map PyData.int) = decide (a = b)
  | [], [] => by simp [PyData.eqvAll]
  | [], _ :: _ => by simp [PyData.eqvAll]
  | _ :: _, [] => by simp [PyData.eqvAll]
  | x :: a, y :: b => by
    have h := eqv_ints a b
    have h1 : PyData.eqv (.int x) (.int y) = decide (x = y) := by
      simp only [PyData.eqv]
      by_cases e : x = y <;> simp [e]
    rw [List.map_cons, List.map_cons]
    simp only [PyData.eqvAll]
    rw [h1, h]
    by_cases e1 : x = y <;> by_cases e2 : a = b <;> simp [e1, e2]
theorem eqv_row (a b : RowI) : PyData.eqv (rowD a) (rowD b) = decide (a = b) := by
  obtain ⟨x, xs⟩ := a
  obtain ⟨y, ys⟩ := b
  unfold rowD
  have h1 : PyData.eqv (.str x) (.str y) = decide (x = y) := by
    simp only [PyData.eqv]
    by_cases e : x = y <;> simp [e]
  have h2 := eqv_ints xs ys
  simp only [PyData.eqv, PyData.eqvAll] at h1 ⊢
  rw [h1, h2]
  by_cases e1 : x = y <;> by_cases e2 : xs = ys <;> simp [e1, e2]
theorem lay_ints : ∀ ss : List Int, PyData.canLayAll0 (ss.map PyData.int) = true
  | [] => rfl
  | x :: ss => by
    rw [List.map_cons]
    simp [PyData.canLayAll0, PyData.canLay0, lay_ints ss]
theorem depth_ints : ∀ ss : List Int, PyData.depthAll (ss.map PyData.int) ≤ 1
  | [] => by simp [PyData.depthAll]
  | x :: ss => by
    have := depth_ints ss
    rw [List.map_cons]
    simp only [PyData.depthAll, PyData.depth]
    omega
theorem depth_row (r : RowI) : (rowD r).depth ≤ 2 := by
  have := depth_ints r.2
  unfold rowD
  simp only [PyData.depth, PyData.depthAll]
  omega
theorem lay_row {r : RowI} (h : PyData.strOk r.1 = true) : PyData.canLay0 (rowD r) = true := by
  unfold rowD
  simp [PyData.canLay0, PyData.canLayAll0, h, lay_ints]
theorem shaped_row {r : RowI} (h : PyData.strOk r.1 = true) : SeqAt.shaped (rowD r) = true := by
  unfold SeqAt.shaped
  have h1 := lay_row h
  have h2 := depth_row r
  rw [Bool.and_eq_true, decide_eq_true_eq]
  exact ⟨h1, by omega⟩
theorem dp_ints {K : PySem.W.Frag} {H : Hp} : ∀ ss : List Int, DpAll K H (ss.map V.int) (ss.map PyData.int)
  | [] => .nil
  | x :: ss => .cons (.int x) (dp_ints ss)
theorem dp_row {K : PySem.W.Frag} {H : Hp} {q : Addr} {r : RowI} (h : H q = some (.tup (rowI r))) : Dp K H (.ref q) (rowD r) := .tup (st_of h) (.cons (.str r.1) (dp_ints r.2))
/-- the rows, one after the other -/
inductive FsRun (L : List Str) (sorts : List Row) (signs : List Sgn) : List RowI → List Nd → List Nat → List Nd × List Nat × Option Nat → Prop
  | done {st : List Nd} {nums : List Nat} : FsRun L sorts signs [] st nums (st, nums, none)
  | bad {r : RowI} {rs : List RowI} {st : List Nd} {nums : List Nat} : Wd L st → (∀ n ∈ nums, n < st.length) → 1 ≤ r.1.length → r.1.length ≤ 400 → (capH r.1 = true → (wordSort sorts signs r.1 300).isSome = true → r.1 ∈ L) → ¬ rowOk sorts signs st nums r → FsRun L sorts signs (r :: rs) st nums (st, nums, some nums.length)
  | good {r : RowI} {rs : List RowI} {st : List Nd} {nums : List Nat} {kd : Str} {o : List Nd × List Nat × Option Nat} : Wd L st → (∀ n ∈ nums, n < st.length) → nums.length ≤ 50000 → 1 ≤ r.1.length → r.1.length ≤ 400 → (capH r.1 = true → (wordSort sorts signs r.1 300).isSome = true → r.1 ∈ L) → rowOk sorts signs st nums r → wordSort sorts signs r.1 300 = some kd →
      FsRun L sorts signs rs (putS st r.1 (rowPs nums r) kd).1 (nums ++ [(putS st r.1 (rowPs nums r) kd).2]) o → FsRun L sorts signs (r :: rs) st nums o
/-- the k-th row is not the one that is due -/
def misAt (rs : List RowI) (due : List RowN) (k : Nat) : Prop := due.length ≤ k ∨ (due[k]?).map toI ≠ rs[k]?
def RaisesP (ec : EK → Addr) (k : EK) (us : List V) (F : List Addr) (T : Hp → Prop) (H : Hp) (E : XK) : Prop := ∀ d H', H d = none → ExB F H H' → T H' → H' d = some (.xd ((fl k).zip us).reverse) → E (.ref (ec k)) (some d) H'
section
variable {P : Program} {w : World} {K : PySem.W.Frag} {mg : Str → Option Value} {base : Heap} {C CS : Addr} {ec fi : EK → Addr} {σ : L2.St} {H : Hp} {ta : TE} {t : TA} {E : XK}
def spFromShared (ec : EK → Addr) (C CS : Addr) : Sp := fun vs H Q E => ∃ (a sg b : Addr) (c : Ce) (tx : List (Key × V)) (st st' : List Nd) (ads : List Addr) (rs : List RowI) (nums : List Nat) (o : Option Nat) (L : List Str) (sorts : List Row) (signs : List Sgn) (pc ps pa pr : Addr) (sgn : List (Sgn × Addr)), vs = [.ref a, .ref b] ∧ StoreAt C H a sg c tx st ∧ SigAt CS H sg sorts signs pc ps pa pr sgn ∧ H b = some (.tup (ads.map V.ref)) ∧ RowsI H ads rs ∧
  (∀ g ∈ signs, capH g.1 = false ∧ g.2.1.length ≤ 4) ∧ FsRun L sorts signs rs st [] (st', nums, o) ∧ (∀ r ∈ rs, PyData.strOk r.1 = true) ∧
  (∀ k, o = some k → RaisesP ec .rows [.int (k : Int)] (cells c) (fun H' => StoreAt C H' a sg c tx st') H E) ∧ (o = none → nums = [] → RaisesP ec .rows [.int 0] (cells c) (fun H' => StoreAt C H' a sg c tx st') H E) ∧
  (o = none → ∀ ns n, nums = ns ++ [n] → ∃ m due, ShRun st' m [] [] [n] due ∧ (∀ r ∈ due, PyData.strOk r.1 = true) ∧ (∀ k, k < rs.length → misAt rs due k → (∀ j, j < k → ¬ misAt rs due j) → RaisesP ec .rows [.int (k : Int)] (cells c) (fun H' => StoreAt C H' a sg c tx st') H E) ∧
    ((∀ j, j < rs.length → ¬ misAt rs due j) → ∀ H', ExB (cells c) H H' → StoreAt C H' a sg c tx st' → Q (.int (n : Int)) H'))
theorem RaisesP.go {k : EK} {us : List V} {c : Ce} {T : Hp → Prop} {H1 : Hp} {a sg : Addr} {tx : List (Key × V)} {st : List Nd} (h : RaisesP ec k us (cells c) T H E) (x : ExB (cells c) H H1) (hS : StoreAt C H1 a sg c tx st) (hT : ∀ H2, Ex H1 H2 → T H2) (d : Addr) (hd : H1 d = none) : E (.ref (ec k)) (some d) (L2.upd H1 d (.xd ((fl k).zip us).reverse)) := by
  have nd : d ∉ cells c := fresh_nin hS hd
  refine h d _ ?_ (fun b o hb ho => (Ex.new hd) _ _ (x b o hb ho)) (hT _ (Ex.new hd)) upd_same
  cases e : H d with
  | none => rfl
  | some o => rw [x d o nd e] at hd; cases hd
theorem scFsh : FnScope ["self", "rows", "numbers", "place", "row", "number", "due"] ["self", "rows"] (defScope (sTer 16)) := ⟨rfl, rfl, rfl, by decide +kernel, rfl, by decide +kernel, by decide +kernel⟩
theorem ok_from_shared {f fo fs : Addr} {fd fdo fds : FuncData} {dO dS : List Value} (F0 : Fun K "from_shared" "Terms.from_shared" (sTer 16) f fd) (S : TermC K C) (E0 : Errs P K mg ec fi) (N : Nm mg) (M : NmS mg) (ME : NmE mg) (OR : MethAt P w K mg base CX0 7 C "_of_row" ["self", "row", "numbers"] [] (spOfRow C CS) fo fdo dO) (SH : MethAt P w K mg base CX0 1 C "shared" ["self", "term"] [] (spShared C) fs fds dS) :
    FnOk P w K mg base (L2N.CX P w) 8 f fd ["self", "rows"] (spFromShared ec C CS) := by
  refine okXN F0 scFsh (fun vs H Q E h => ?_) (fun cdv A outer s H vs Q E hr h => ?_)
  · obtain ⟨a, sg, b, c, tx, st, st', ads, rs, nums, o, L, sorts, signs, pc, ps, pa, pr, sgn, rfl, _⟩ := h
    rfl
  · obtain ⟨a, sg, b, c, tx, st, st', ads, rs, nums, o, L, sorts, signs, pc, ps, pa, pr, sgn, rfl, hS, hG, hb, hR, hsg, hrun, hso, k1, k2, k3⟩ := h
    have tk := L2N.takes_of (X := cxOf (L2N.CX P w) P w K mg base ["self", "rows", "numbers", "place", "row", "number", "due"] "Terms.from_shared" (defScope (sTer 16)) f cdv A outer s H E) rfl rfl rfl rfl
    obtain ⟨mG, mN, mT, mW, mP, mKi, mS, mL⟩ := mem_f (c := c) (sg := sg)
    refine ⟨_, (pss_cons (ps_asg (pe_lst pa_nil) (pg_name (i := 2) scFsh.nd rfl (.inl rfl))) (pss_cons (ps_for PassesOwn.leaving rfl (pi_enumT (by rfl) ME.enumerate (pa_cons (pv 1) pa_nil)) (pg_tup rfl (pgs_cons (pg_name (i := 3) scFsh.nd rfl (.inl rfl)) (pgs_cons (pg_name (i := 4) scFsh.nd rfl (.inl rfl)) pgs_nil))) (pss_cons (ps_asg (pe_meth (pv 0) S.cl OR.m OR.F (hr.mono (by decide)) OR.b OR.v pass0 (pa_cons (pv 4) (pa_cons (pv 2) pa_nil))) (pg_name (i := 5) scFsh.nd rfl (.inl rfl))) (pss_cons (ps_if (pt_cmpR op_isNon (pv 5) pe_non (nomark _)) (pss_one (L2N.ps_raise rfl tk (pmk_sup (x := "BadRows") (E0.t .rows) (by decide) hr (pa_cons (pv 3) pa_nil) (by rfl)))) pss_nil) (pss_one (ps_expr (pe_bm PySem.F.plainAttrs_list PySem.F.slot_list_append PySem.F.type_list_append mt_append (pv 2) (pa_cons (pv 5) pa_nil))))))) (pss_cons (ps_if (pt_not (pt_tru (pv 2))) (pss_one (L2N.ps_raise rfl tk (pmk_sup (x := "BadRows") (E0.t .rows) (by decide) hr (pa_cons pe_int pa_nil) (by rfl)))) pss_nil) (pss_cons (ps_asg (pe_meth (pv 0) S.cl SH.m SH.F (hr.mono (by decide)) SH.b SH.v pass0 (pa_cons (pe_ix (r := rIxL K) ix_list (pv 2) (pe_un un_neg pe_int) (fun _ _ => rfl)) pa_nil)) (pg_name (i := 6) scFsh.nd rfl (.inl rfl))) (pss_cons (ps_for PassesOwn.leaving rfl (pi_enumT (by rfl) ME.enumerate (pa_cons (pv 1) pa_nil)) (pg_tup rfl (pgs_cons (pg_name (i := 3) scFsh.nd rfl (.inl rfl)) (pgs_cons (pg_name (i := 4) scFsh.nd rfl (.inl rfl)) pgs_nil))) (pss_one (ps_if (PW.pt (pw_or (pt_cmpR op_ge (pv 3) (pe_callB (r := rLenS K) call_len_seq (by rfl) N.len PySem.boot_len (pa_cons (pv 6) pa_nil)) (nomark _)) (pw_or1 (pt_cmpR (r := rNeD K) (op_neD hr.units) (pe_callTy (T := "tuple") (call_tupK (K := K) rfl) (by rfl) M.tuple (by decide +kernel) (pa_cons (pv 4) pa_nil)) (pe_ix (r := rIxT K) ix_tup (pv 6) (pv 3) (fun _ _ => rfl)) (nomark _))))) (pss_one (L2N.ps_raise rfl tk (pmk_sup (x := "BadRows") (E0.t .rows) (by decide) hr (pa_cons (pv 3) pa_nil) (by rfl)))) pss_nil))) (pss_one (ps_ret (pe_ix (r := rIxL K) ix_list (pv 2) (pe_un un_neg pe_int) (fun _ _ => rfl))))))))), ?_⟩
    refine q_asgL (el_lst ea_nil (by decide)) fun pn H1 n1 e1 h1 => ?_
    have x1 : H pn = none := n1
    have npn : pn ∉ cells c := fresh_nin hS n1
    have hbn := nin_tup hS hb
    refine q_forEnumT (xs := ads.map V.ref) (ev_var rfl) (st_of (e1 _ _ hb)) (fun i σ' H' => ∃ (st1 : List Nd) (ns : List Nat) (u3 u4 u5 : Option V), FsRun L sorts signs (rs.drop i) st1 ns (st', nums, o) ∧ ns.length = i ∧ σ' = [some (.ref a), some (.ref b), some (.ref pn), u3, u4, u5, none] ∧ ExB (cells c) H H' ∧ StoreAt C H' a sg c tx st1 ∧ H' pn = some (.lst (nV ns))) (fun H2 e2 => ⟨st, [], none, none, none, by rw [List.drop_zero]; exact hrun, rfl, rfl, ExB.of (e1.trans e2), hS.mono (e1.trans e2), e2 _ _ h1⟩) (fun i σ' H' p => ?_) (fun i v σ' H0 H' hv p e0 => ?_) (fun σ' H' p => ?_)
    · obtain ⟨_, _, _, _, _, _, _, _, x, _⟩ := p
      exact st_of (x _ _ hbn hb)
    · obtain ⟨st1, ns, u3, u4, u5, hrun, hnl, rfl, x, hS1, hpn⟩ := p
      have x := x.ex e0
      have hS1 := hS1.mono e0
      have hpn := e0 _ _ hpn
      rw [List.getElem?_map] at hv
      obtain ⟨q, hq, rfl⟩ := Option.map_eq_some_iff.mp hv
      obtain ⟨r, hr'⟩ : ∃ r, rs[i]? = some r := ⟨_, List.getElem?_eq_getElem (by have := (List.getElem?_eq_some_iff.mp hq).1; rw [← hR.len]; exact this)⟩
      have hdr : rs.drop i = r :: rs.drop (i + 1) := by
        obtain ⟨hi, hn⟩ := List.getElem?_eq_some_iff.mp hr'
        rw [← hn]
        exact List.drop_eq_getElem_cons hi
      rw [hdr] at hrun
      have hqt := (hR.keep hS x).at_ i q r hq hr'
      have hG1 := hG.keep hS x
      show tSeq _ _ _ [some (.ref a), some (.ref b), some (.ref pn), some (.int (i : Int)), some (.ref q), u5, none] H'
      obtain ⟨dx, fs', o1, o2⟩ := hS1.no
      cases hrun with
      | bad W hns w1 w2 hcL hno =>
        refine q_asg (v := .non) (fun G1 g1 Q1 q1 => (ev_var (i := 0) (v := .ref a) rfl) G1 g1 _ fun G2 g2 => ⟨a, dx, fs', rfl, g2 _ _ (g1 _ _ o1), o2 _ (by decide), (ea_cons (ev_var (v := .ref q) rfl) (ea_cons (ev_var (v := .ref pn) rfl) ea_nil)) G2 (g1.trans g2) _ fun G3 g3 => ?_⟩) fun G1 g1 => ?_
        · have g13 := (g1.trans g2).trans g3
          exact ⟨a, sg, q, pn, c, tx, st', r, nums, L, sorts, signs, pc, ps, pa, pr, sgn, rfl, hS1.mono g13, hG1.mono g13, g13 _ _ hqt, g13 _ _ hpn, W, w1, w2, hsg, hcL, hns, fun _ G4 g4 => q1 G4 ((g2.trans g3).trans g4), fun z => absurd z hno⟩
        · refine q_when (b := true) (et_is (et_test (ev_op (ev_var rfl) ev_c rv_isN)) rfl) (fun _ G2 g2 => ?_) (fun z => by cases z)
          have g12 := g1.trans g2
          refine (ea_cons (ev_var rfl) ea_nil) G2 (Ex.refl G2) _ fun G3 g3 => ⟨rfl, fun d hd => ?_⟩
          have := (k1 _ rfl).go (x.ex (g12.trans g3)) (hS1.mono (g12.trans g3)) (fun H2 e2 => hS1.mono ((g12.trans g3).trans e2)) d hd
          rw [hnl] at this
          exact this
      | @good _ _ _ _ kd _ W hns hnl2 w1 w2 hcL hro hws hrun =>
        refine q_asgP (F := cells c) (R := fun v G => v = .int ((putS st1 r.1 (rowPs ns r) kd).2 : Int) ∧ StoreAt C G a sg c tx (putS st1 r.1 (rowPs ns r) kd).1) (fun G1 g1 Q1 q1 => (ev_var (i := 0) (v := .ref a) rfl) G1 g1 _ fun G2 g2 => ⟨a, dx, fs', rfl, g2 _ _ (g1 _ _ o1), o2 _ (by decide), (ea_cons (ev_var (v := .ref q) rfl) (ea_cons (ev_var (v := .ref pn) rfl) ea_nil)) G2 (g1.trans g2) _ fun G3 g3 => ?_⟩) fun v G1 y1 hv => ?_
        · have g13 := (g1.trans g2).trans g3
          refine ⟨a, sg, q, pn, c, tx, st1, r, ns, L, sorts, signs, pc, ps, pa, pr, sgn, rfl, hS1.mono g13, hG1.mono g13, g13 _ _ hqt, g13 _ _ hpn, W, w1, w2, hsg, hcL, hns, fun z => absurd hro z, fun _ kd' hk' H4 y4 h4 => ?_⟩
          rw [hws] at hk'
          obtain rfl := Option.some.inj hk'
          exact q1 _ H4 ((ExB.of (g2.trans g3)).trans y4) ⟨rfl, h4⟩
        · obtain ⟨rfl, hS2⟩ := hv
          have hpn2 := y1 _ _ npn hpn
          refine q_when (b := false) (et_is (et_test (ev_op (ev_var rfl) ev_c rv_isN)) rfl) (fun z => by cases z) (fun _ G2 g2 => ?_)
          refine s_app (g2 _ _ hpn2) (ev_var rfl) (ev_var rfl) (by simp; omega) fun G3 g3 => ?_
          have g23 := g2.trans g3
          refine ⟨_, ns ++ [(putS st1 r.1 (rowPs ns r) kd).2], _, _, _, hrun, by simp [hnl], rfl, ?_, (hS2.mono g23).updL (g23 _ _ hpn2) npn, by rw [upd_same, nV_app]; rfl⟩
          exact fun b' o' hb' ho' => by
            rw [upd_ne (fun z => by rw [z, x1] at ho'; cases ho')]
            exact g23 _ _ (y1 _ _ hb' (x _ _ hb' ho'))
    · obtain ⟨st1, ns, u3, u4, u5, hrun, hnl, rfl, x, hS1, hpn⟩ := p
      rw [List.length_map, hR.len, List.drop_length] at hrun
      cases hrun
      have hG1 := hG.keep hS x
      have hR1 := hR.keep hS x
      have hb1 := x _ _ hbn hb
      obtain ⟨dx, fs', o1, o2⟩ := hS1.no
      rcases List.eq_nil_or_concat nums with hnil | ⟨ns, n, hcc⟩
      · rw [hnil] at hpn
        refine q_when (b := true) (et_is (et_not (et_truL (ev_var rfl) (sq_of hpn))) rfl) (fun _ G2 g2 => ?_) (fun z => by cases z)
        refine (ea_cons ev_c ea_nil) G2 (Ex.refl G2) _ fun G3 g3 => ⟨rfl, fun d hd => ?_⟩
        exact (k2 rfl hnil).go (x.ex (g2.trans g3)) (hS1.mono (g2.trans g3)) (fun H2 e2 => hS1.mono ((g2.trans g3).trans e2)) d hd
      · rw [List.concat_eq_append] at hcc
        subst hcc
        refine q_when (b := false) (et_is (et_not (et_truL (ev_var rfl) (sq_of hpn))) (by rw [nV_ne]; rfl)) (fun z => by cases z) (fun _ G2 g2 => ?_)
        obtain ⟨m, due, hsh, hsd, k4, k5⟩ := k3 rfl ns n rfl
        have hlast : ∀ {G : Hp} {σ : L2.St}, Ex H' G → σ[2]? = some (some (.ref pn)) → Ev (tOp (rIxL K) (tVar 2) (tUn (rU fun i => .int (-i)) (tC (.int 1)))) σ G (.int (n : Int)) := fun eG h2 => ev_op (ev_var h2) (ev_un ev_c ru_neg) (rv_ixL (sq_of (eG _ _ hpn)) (by rw [nV_app]; exact atI_last))
        refine q_asgR (R := fun v G => ∃ pd du, v = .ref pd ∧ G pd = some (.tup (du.map V.ref)) ∧ RowsT G du due) (fun G3 g3 Q1 q1 => (ev_var (i := 0) (v := .ref a) rfl) G3 g3 _ fun G4 g4 => ⟨a, dx, fs', rfl, (g2.trans (g3.trans g4)) _ _ o1, o2 _ (by decide), (ea_cons (hlast (g2.trans (g3.trans g4)) rfl) ea_nil) G4 (Ex.refl G4) _ fun G5 g5 => ?_⟩) fun v G3 g3 hv => ?_
        · exact ⟨a, sg, c, tx, st', n, m, due, rfl, hS1.mono ((g2.trans (g3.trans g4)).trans g5), hsh, fun p du G6 np g6 hp hRT => q1 _ G6 ((g4.trans g5).trans g6) ⟨p, du, rfl, hp, hRT⟩⟩
        · obtain ⟨pd, du, rfl, hpd, hRT⟩ := hv
          have g03 := g2.trans g3
          have hRD := hRT.toI
          refine q_forEnumT (xs := ads.map V.ref) (ev_var rfl) (st_of (g03 _ _ hb1)) (fun i σ' H6 => Ex G3 H6 ∧ (∀ j, j < i → ¬ misAt rs due j) ∧ ∃ u3 u4, σ' = [some (.ref a), some (.ref b), some (.ref pn), u3, u4, u5, some (.ref pd)]) (fun G4 g4 => ⟨g4, fun j hj => absurd hj (Nat.not_lt_zero j), u3, u4, rfl⟩) (fun i σ' H6 p => st_of (p.1 _ _ (g03 _ _ hb1))) (fun i v σ' H5 H6 hv p e0 => ?_) (fun σ' H6 p => ?_)
          · obtain ⟨g4, hok, u3', u4', rfl⟩ := p
            have g4 := g4.trans e0
            have g04 := g03.trans g4
            rw [List.getElem?_map] at hv
            obtain ⟨q, hq, rfl⟩ := Option.map_eq_some_iff.mp hv
            obtain ⟨r, hr'⟩ : ∃ r, rs[i]? = some r := ⟨_, List.getElem?_eq_getElem (by have := (List.getElem?_eq_some_iff.mp hq).1; rw [← hR.len]; exact this)⟩
            have hi := (List.getElem?_eq_some_iff.mp hr').1
            have hqt := g04 _ _ (hR1.at_ i q r hq hr')
            show tIfS _ _ _ _ [some (.ref a), some (.ref b), some (.ref pn), some (.int (i : Int)), some (.ref q), u5, some (.ref pd)] H6
            have hlen : ∀ {G : Hp} {σ : L2.St}, Ex H6 G → σ[6]? = some (some (.ref pd)) → Ev (tCB (rLenS K) (tCons (tVar 6) tNil)) σ G (.int (due.length : Int)) := fun eG h6 => ev_is (ev_lenT2 (ev_var h6) (eG _ _ (g4 _ _ hpd))) (by rw [List.length_map, hRT.len])
            obtain ⟨b0, hb0⟩ : ∃ b0, b0 = b := ⟨b, rfl⟩
            rw [← hb0]
            have tt : ∀ {b : Bool}, (misAt rs due i ↔ b = true) → EvT (tOr (tTest (tOp (rI0 fun i j => .bl (decide (i ≥ j))) (tVar 3) (tCB (rLenS K) (tCons (tVar 6) tNil)))) (tTest (tOp (rNeD K) (tCB (rTupSq K) (tCons (tVar 4) tNil)) (tOp (rIxT K) (tVar 6) (tVar 3))))) [some (.ref a), some (.ref b0), some (.ref pn), some (.int (i : Int)), some (.ref q), u5, some (.ref pd)] H6 b := by
              intro b hmb
              have t1 := et_test (ev_op (r := rI0 fun i j => .bl (decide (i ≥ j))) (ev_var (i := 3) (v := .int (i : Int)) (σ := [some (.ref a), some (.ref b0), some (.ref pn), some (.int (i : Int)), some (.ref q), u5, some (.ref pd)]) rfl) (hlen (σ := [some (.ref a), some (.ref b0), some (.ref pn), some (.int (i : Int)), some (.ref q), u5, some (.ref pd)]) (Ex.refl H6) rfl) rv_I0)
              by_cases hle : due.length ≤ i
              · have hb2 : b = true := hmb.mp (.inl hle)
                rw [hb2]
                refine et_is (et_or (b := true) t1 fun h => ?_) ?_
                · exact absurd (of_decide_eq_false h) (by omega)
                · simp
              · obtain ⟨dr, hdr⟩ : ∃ dr, due[i]? = some dr := ⟨_, List.getElem?_eq_getElem (by omega)⟩
                obtain ⟨dq, hdq⟩ : ∃ dq, du[i]? = some dq := ⟨_, List.getElem?_eq_getElem (by rw [hRT.len]; omega)⟩
                have hdt := g4 _ _ (hRD.at_ i dq (toI dr) hdq (by rw [List.getElem?_map, hdr]; rfl))
                have sr := hso r (List.mem_of_getElem? hr')
                have sd : PyData.strOk (toI dr).1 = true := hsd dr (List.mem_of_getElem? hdr)
                have hrv : RV (rNeD K) (.ref q) (.ref dq) H6 (.bl (!decide (r = toI dr))) := fun H7 e7 Q k => ⟨rowD r, rowD (toI dr), dp_row (e7 _ _ hqt), dp_row (e7 _ _ hdt), shaped_row sr, shaped_row sd, by rw [eqv_row]; exact k H7 (Ex.refl H7)⟩
                have htup : Ev (tCB (rTupSq K) (tCons (tVar 4) tNil)) [some (.ref a), some (.ref b0), some (.ref pn), some (.int (i : Int)), some (.ref q), u5, some (.ref pd)] H6 (.ref q) := fun H7 e7 Q k => (ev_var (v := .ref q) rfl) H7 e7 _ fun H8 e8 => ⟨q, _, rfl, .inr ⟨st_of (e8 _ _ (e7 _ _ hqt)), k H8 e8⟩⟩
                refine et_is (et_or t1 fun h => et_test (ev_op htup (ev_op (ev_var rfl) (ev_var rfl) (rv_ixT (v := .ref dq) (st_of (g4 _ _ hpd)) (atI_nat (by rw [List.getElem?_map, hdq]; rfl)))) hrv)) ?_
                have h1 : decide ((i : Int) ≥ (due.length : Int)) = false := decide_eq_false (by omega)
                rw [h1, Bool.false_or]
                cases b with
                | true =>
                  have : misAt rs due i := hmb.mpr rfl
                  rcases this with z | z
                  · exact absurd z hle
                  · rw [hdr, hr'] at z
                    rw [decide_eq_false (fun e => z (by rw [e]; rfl))]
                    rfl
                | false =>
                  have : ¬ misAt rs due i := fun z => by have := hmb.mp z; cases this
                  have : r = toI dr := Decidable.byContradiction fun e => this (.inr (by rw [hdr, hr']; exact fun z => e (Option.some.inj z).symm))
                  rw [decide_eq_true this]
                  rfl
            by_cases hm : misAt rs due i
            · refine s_when (b := true) (tt ⟨fun _ => rfl, fun _ => hm⟩) (fun _ G5 g5 => ?_) (fun z => by cases z)
              refine (ea_cons (ev_var rfl) ea_nil) G5 (Ex.refl G5) _ fun G6 g6 => ⟨rfl, fun d hd => ?_⟩
              have g06 := (g04.trans g5).trans g6
              exact (k4 i hi hm hok).go (x.ex g06) (hS1.mono g06) (fun H2 e2 => hS1.mono (g06.trans e2)) d hd
            · refine s_when (b := false) (tt ⟨fun z => absurd z hm, fun z => by cases z⟩) (fun z => by cases z) (fun _ G5 g5 => ⟨g4.trans g5, fun j hj => ?_, _, _, by rw [hb0]⟩)
              rcases Nat.lt_succ_iff_lt_or_eq.mp hj with hj | rfl
              · exact hok j hj
              · exact hm
          · obtain ⟨g4, hok, u3', u4', rfl⟩ := p
            rw [List.length_map, hR.len] at hok
            have g04 := g03.trans g4
            exact s_ret (hlast g04 rfl) fun G5 g5 => k5 hok G5 (x.ex (g04.trans g5)) (hS1.mono (g04.trans g5))
end
end K87
-- A1
namespace K87
open PySem PySem.Spec PyProof.Rows L2 Evl KEv TL KDd KSq KSame KTxt KNew KRvT KD
/-! terms that are paths over one letter: the plain law -/
structure Par where
  one : Str
  many : Str
  lt : Str
  srt : Str
  cap : Str
  ar : Nat
def Par.wd (p : Par) (b : Bool) : Str := if b then p.many else p.one
def Par.a1 (p : Par) (b : Bool) : Nat := if b then p.ar else 1
structure ParOk (p : Par) : Prop where
  ne : p.one ≠ p.many
  c1 : capH p.one = false
  c2 : capH p.many = false
  let_ : IsLet p.lt
  lb : letterB (tl p.lt) 300 = true
  l1 : 1 ≤ p.one.length ∧ p.one.length ≤ 400
  l2 : 1 ≤ p.many.length ∧ p.many.length ≤ 400
  ar1 : 1 ≤ p.ar
  ar4 : p.ar ≤ 4
  hcap : p.cap = ⟨#[(tl p.lt).headD 0]⟩
  n1 : p.one ≠ "none0"
  n2 : p.many ≠ "none0"
  s1 : PyData.strOk p.one = true
  s2 : PyData.strOk p.many = true
  b1 : 32 ∉ tl p.one
  b2 : 32 ∉ tl p.many
  b3 : 32 ∉ tl p.lt
theorem ParOk.cl {p : Par} (h : ParOk p) : capH p.lt = true := by
  have hb := h.lb
  unfold letterB at hb
  simp only [Bool.and_eq_true] at hb
  exact hb.1.1.2
theorem ParOk.cw {p : Par} (h : ParOk p) (b : Bool) : capH (p.wd b) = false := by
  cases b
  · exact h.c1
  · exact h.c2
theorem ParOk.aw {p : Par} (h : ParOk p) (b : Bool) : 1 ≤ p.a1 b ∧ p.a1 b ≤ 4 := by
  have := h.ar1
  have := h.ar4
  cases b <;> simp [Par.a1] <;> omega
theorem ParOk.lw {p : Par} (h : ParOk p) (b : Bool) : 1 ≤ (p.wd b).length ∧ (p.wd b).length ≤ 400 := by
  cases b
  · exact h.l1
  · exact h.l2
theorem ParOk.wne {p : Par} (h : ParOk p) (b : Bool) : p.wd b ≠ p.lt := fun z => by
  have h1 := h.cw b
  rw [z, h.cl] at h1
  cases h1
theorem ParOk.winj {p : Par} (h : ParOk p) {b c : Bool} (z : p.wd b = p.wd c) : b = c := by
  cases b <;> cases c
  · rfl
  · exact absurd z h.ne
  · exact absurd z.symm h.ne
  · rfl
abbrev Pth := List Bool
def szB (p : Par) (bs : Pth) : Nat := bs.foldl (fun s b => 1 + p.a1 b * s) 1
theorem szB_snoc (p : Par) (bs : Pth) (b : Bool) : szB p (bs ++ [b]) = 1 + p.a1 b * szB p bs := by simp [szB]
def wordOf (p : Par) (bs : Pth) : Str := match bs.getLast? with
  | none => p.lt
  | some b => p.wd b
def partsOf (p : Par) (ps : List Pth) (bs : Pth) : List Nat := match bs.getLast? with
  | none => []
  | some b => List.replicate (p.a1 b) (ps.idxOf bs.dropLast)
theorem wordOf_nil (p : Par) : wordOf p [] = p.lt := rfl
theorem wordOf_snoc (p : Par) (bs : Pth) (b : Bool) : wordOf p (bs ++ [b]) = p.wd b := by simp [wordOf]
theorem partsOf_nil (p : Par) (ps : List Pth) : partsOf p ps [] = [] := rfl
theorem partsOf_snoc (p : Par) (ps : List Pth) (bs : Pth) (b : Bool) : partsOf p ps (bs ++ [b]) = List.replicate (p.a1 b) (ps.idxOf bs) := by simp [partsOf]
def ndP (p : Par) (ps : List Pth) (bs : Pth) : Nd := ⟨wordOf p bs, partsOf p ps bs, p.srt, szB p bs, [p.lt]⟩
def stP (p : Par) (ps : List Pth) : List Nd := ps.map (ndP p ps)
theorem stP_len (p : Par) (ps : List Pth) : (stP p ps).length = ps.length := List.length_map _
theorem path_cases (bs : Pth) : bs = [] ∨ ∃ cs b, bs = cs ++ [b] := by
  rcases List.eq_nil_or_concat bs with h | ⟨cs, b, h⟩
  · exact .inl h
  · exact .inr ⟨cs, b, by rw [h, List.concat_eq_append]⟩
structure PathsOk (ps : List Pth) : Prop where
  nd : ps.Nodup
  up : ∀ cs b, cs ++ [b] ∈ ps → cs ∈ ps ∧ ps.idxOf cs < ps.idxOf (cs ++ [b])
theorem idx_get {ps : List Pth} {bs : Pth} (h : bs ∈ ps) : ps[ps.idxOf bs]? = some bs := by
  have hl := List.idxOf_lt_length_of_mem h
  rw [List.getElem?_eq_getElem hl, List.getElem_idxOf hl]
theorem idx_inj {ps : List Pth} {bs cs : Pth} (h : bs ∈ ps) (h2 : cs ∈ ps) (e : ps.idxOf bs = ps.idxOf cs) : bs = cs := by
  have z1 := idx_get h
  rw [e, idx_get h2] at z1
  exact (Option.some.inj z1).symm
theorem st_get {p : Par} {ps : List Pth} {bs : Pth} (h : bs ∈ ps) : (stP p ps)[ps.idxOf bs]? = some (ndP p ps bs) := by
  unfold stP
  rw [List.getElem?_map, idx_get h]
  rfl
theorem PathsOk.nil : PathsOk [] := ⟨List.nodup_nil, fun cs b h => by cases h⟩
/-- one more path -/
def addP (ps : List Pth) (bs : Pth) : List Pth := if bs ∈ ps then ps else ps ++ [bs]
theorem addP_mem {ps : List Pth} {bs cs : Pth} : cs ∈ addP ps bs ↔ cs ∈ ps ∨ cs = bs := by
  unfold addP
  by_cases h : bs ∈ ps
  · rw [if_pos h]
    exact ⟨.inl, fun z => z.elim id fun z => by rw [z]; exact h⟩
  · rw [if_neg h]
    simp
theorem addP_len (ps : List Pth) (bs : Pth) : (addP ps bs).length ≤ ps.length + 1 := by
  unfold addP
  by_cases h : bs ∈ ps
  · rw [if_pos h]; omega
  · rw [if_neg h]; simp
theorem addP_idx {ps : List Pth} {bs cs : Pth} (h : cs ∈ ps) : (addP ps bs).idxOf cs = ps.idxOf cs := by
  unfold addP
  by_cases hb : bs ∈ ps
  · rw [if_pos hb]
  · rw [if_neg hb, List.idxOf_append, if_pos h]
theorem addP_new {ps : List Pth} {bs : Pth} (h : bs ∉ ps) : (addP ps bs).idxOf bs = ps.length := by
  unfold addP
  rw [if_neg h, List.idxOf_append, if_neg h]
  simp
/-- the path ahead is there -/
def hasPre (ps : List Pth) (bs : Pth) : Prop := ∀ cs b, bs = cs ++ [b] → cs ∈ ps
theorem PathsOk.add {ps : List Pth} {bs : Pth} (h : PathsOk ps) (hp : hasPre ps bs) : PathsOk (addP ps bs) := by
  by_cases hb : bs ∈ ps
  · unfold addP
    rw [if_pos hb]
    exact h
  · refine ⟨?_, fun cs b hm => ?_⟩
    · unfold addP
      rw [if_neg hb, List.nodup_append]
      exact ⟨h.nd, by simp, fun x hx y hy => by
        rw [List.mem_singleton.mp hy]
        exact fun z => hb (by rw [← z]; exact hx)⟩
    · rcases addP_mem.mp hm with hm | hm
      · obtain ⟨z1, z2⟩ := h.up cs b hm
        exact ⟨addP_mem.mpr (.inl z1), by rw [addP_idx z1, addP_idx hm]; exact z2⟩
      · have hc := hp cs b hm.symm
        refine ⟨addP_mem.mpr (.inl hc), ?_⟩
        rw [addP_idx hc, hm, addP_new hb]
        exact List.idxOf_lt_length_of_mem hc
theorem nd_add {p : Par} {ps : List Pth} {bs cs : Pth} (h : PathsOk ps) (hc : cs ∈ ps) : ndP p (addP ps bs) cs = ndP p ps cs := by
  unfold ndP
  have : partsOf p (addP ps bs) cs = partsOf p ps cs := by
    rcases path_cases cs with rfl | ⟨ds, b, rfl⟩
    · rfl
    · rw [partsOf_snoc, partsOf_snoc, addP_idx (h.up ds b hc).1]
  rw [this]
theorem rep_inj {a c i j : Nat} (ha : 1 ≤ a) (h : List.replicate a i = List.replicate c j) : i = j := by
  cases a with
  | zero => omega
  | succ a =>
    cases c with
    | zero => cases h
    | succ c =>
      rw [List.replicate_succ, List.replicate_succ] at h
      exact (List.cons.inj h).1
/-- a node tells its path -/
theorem nd_path {p : Par} {ps : List Pth} {bs cs : Pth} (hp : ParOk p) (h : PathsOk ps) (hc : cs ∈ ps) (hb : hasPre ps bs) : isNd (wordOf p bs) (partsOf p ps bs) (ndP p ps cs) = decide (cs = bs) := by
  unfold isNd
  refine decide_eq_decide.mpr ⟨fun ⟨h1, h2⟩ => ?_, fun z => by rw [z]; exact ⟨rfl, rfl⟩⟩
  have h1 : wordOf p cs = wordOf p bs := h1
  have h2 : partsOf p ps cs = partsOf p ps bs := h2
  rcases path_cases cs with rfl | ⟨ds, b, rfl⟩
  · rcases path_cases bs with rfl | ⟨es, c, rfl⟩
    · rfl
    · rw [wordOf_snoc, wordOf_nil] at h1
      exact absurd h1.symm (hp.wne c)
  · rcases path_cases bs with rfl | ⟨es, c, rfl⟩
    · rw [wordOf_snoc, wordOf_nil] at h1
      exact absurd h1 (hp.wne b)
    · rw [wordOf_snoc, wordOf_snoc] at h1
      obtain rfl := hp.winj h1
      rw [partsOf_snoc, partsOf_snoc] at h2
      have := rep_inj (hp.aw b).1 h2
      rw [idx_inj (h.up ds b hc).1 (hb es b rfl) this]
theorem find_path {ps : List Pth} (bs : Pth) : ps.findIdx? (fun cs => decide (cs = bs)) = if bs ∈ ps then some (ps.idxOf bs) else none := by
  induction ps with
  | nil => rfl
  | cons c ps ih =>
    rw [List.findIdx?_cons, ih]
    by_cases e : c = bs
    · subst e
      simp
    · rw [decide_eq_false e]
      by_cases hb : bs ∈ ps
      · rw [if_pos hb, if_pos (List.mem_cons_of_mem _ hb)]
        have hb2 : (c == bs) = false := by simpa using e
        rw [List.idxOf_cons, hb2]
        rfl
      · rw [if_neg hb, if_neg (fun z => (List.mem_cons.mp z).elim (fun z => e z.symm) hb)]
        rfl
theorem join_self (x : Str) : joinL [x] [x] = [x] := by
  unfold joinL
  rw [if_pos (.inr rfl)]
theorem join_nil (x : Str) : joinL [] [x] = [x] := by
  unfold joinL
  rw [if_neg (by simp), if_pos rfl]
theorem fold_let {p : Par} {st : List Nd} {j : Nat} (h : lsOf st j = [p.lt]) : ∀ (n : Nat), (List.replicate n j).foldl (fun a i => joinL a (lsOf st i)) [p.lt] = [p.lt]
  | 0 => rfl
  | n + 1 => by
    rw [List.replicate_succ, List.foldl_cons, h, join_self]
    exact fold_let h n
theorem sum_rep {st : List Nd} {j : Nat} (n : Nat) : ((List.replicate n j).map (szOf st)).sum = n * szOf st j := by
  induction n with
  | zero => simp
  | succ n ih =>
    rw [List.replicate_succ, List.map_cons, List.sum_cons, ih, Nat.succ_mul]
    omega
theorem new_path {p : Par} {ps : List Pth} {bs : Pth} (hp : ParOk p) (hb : hasPre ps bs) : newNd (stP p ps) (wordOf p bs) (partsOf p ps bs) p.srt = ndP p ps bs := by
  unfold newNd ndP
  rcases path_cases bs with rfl | ⟨cs, b, rfl⟩
  · congr 1
    show letP (stP p ps) p.lt [] = [p.lt]
    unfold letP
    rw [hp.cl]
    rfl
  · have hc := hb cs b rfl
    have hg := st_get (p := p) hc
    have hs : szOf (stP p ps) (ps.idxOf cs) = szB p cs := by unfold szOf; rw [hg]; rfl
    have hl : lsOf (stP p ps) (ps.idxOf cs) = [p.lt] := by unfold lsOf; rw [hg]; rfl
    rw [partsOf_snoc, wordOf_snoc]
    congr 1
    · unfold sizeP
      rw [sum_rep, hs, szB_snoc]
    · unfold letP
      rw [hp.cw b]
      obtain ⟨n, hn⟩ : ∃ n, p.a1 b = n + 1 := ⟨p.a1 b - 1, by have := (hp.aw b).1; omega⟩
      rw [hn, List.replicate_succ, List.foldl_cons, hl]
      show List.foldl _ (joinL [] [p.lt]) _ = _
      rw [join_nil]
      exact fold_let hl n
theorem put_path {p : Par} {ps : List Pth} {bs : Pth} (hp : ParOk p) (h : PathsOk ps) (hb : hasPre ps bs) : putS (stP p ps) (wordOf p bs) (partsOf p ps bs) p.srt = (stP p (addP ps bs), (addP ps bs).idxOf bs) := by
  have hf : (stP p ps).findIdx? (isNd (wordOf p bs) (partsOf p ps bs)) = if bs ∈ ps then some (ps.idxOf bs) else none := by
    rw [← find_path]
    unfold stP
    rw [List.findIdx?_map]
    have key : ∀ qs : List Pth, (∀ c ∈ qs, c ∈ ps) → qs.findIdx? (isNd (wordOf p bs) (partsOf p ps bs) ∘ ndP p ps) = qs.findIdx? (fun cs => decide (cs = bs)) := by
      intro qs
      induction qs with
      | nil => intro _; rfl
      | cons c qs ih =>
        intro hq
        rw [List.findIdx?_cons, List.findIdx?_cons, ih fun d hd => hq d (List.mem_cons_of_mem _ hd)]
        rw [show (isNd (wordOf p bs) (partsOf p ps bs) ∘ ndP p ps) c = decide (c = bs) from nd_path hp h (hq c List.mem_cons_self) hb]
    exact key ps fun c hc => hc
  unfold putS
  rw [hf]
  by_cases hm : bs ∈ ps
  · rw [if_pos hm]
    unfold addP
    rw [if_pos hm]
  · rw [if_neg hm, addP_new hm]
    show (stP p ps ++ [newNd (stP p ps) (wordOf p bs) (partsOf p ps bs) p.srt], (stP p ps).length) = _
    rw [stP_len, new_path hp hb]
    congr 1
    have e : addP ps bs = ps ++ [bs] := by unfold addP; rw [if_neg hm]
    have e1 : stP p (addP ps bs) = (addP ps bs).map (ndP p (addP ps bs)) := rfl
    rw [e1]
    rw [show (addP ps bs).map (ndP p (addP ps bs)) = ps.map (ndP p (addP ps bs)) ++ [ndP p (addP ps bs) bs] by rw [e, List.map_append]; rfl]
    congr 1
    · unfold stP
      exact List.map_congr_left fun c hc => (nd_add h hc).symm
    · congr 1
      unfold ndP
      have : partsOf p (addP ps bs) bs = partsOf p ps bs := by
        rcases path_cases bs with rfl | ⟨ds, b, rfl⟩
        · rfl
        · rw [partsOf_snoc, partsOf_snoc, addP_idx (hb ds b rfl)]
      rw [this]
theorem wd_path {p : Par} {ps : List Pth} (hp : ParOk p) (hl : ps.length ≤ 50000) : Wd [p.lt] (stP p ps) := by
  refine ⟨⟨fun x hx => by rw [List.mem_singleton.mp hx]; exact hp.let_, by simp⟩, ⟨fun x hx => ?_⟩, by rw [stP_len]; exact hl⟩
  obtain ⟨bs, _, rfl⟩ := List.mem_map.mp hx
  exact ⟨by simp [ndP], fun y hy => hy⟩
end K87
-- A2
namespace K87
open PySem PySem.Spec PyProof.Rows L2 Evl KEv TL KDd KSq KSame KTxt KNew KRvT KD
/-! what the store's walks tell of a path -/
theorem path_ind {M : Pth → Prop} (h0 : M []) (hs : ∀ cs b, M cs → M (cs ++ [b])) : ∀ bs, M bs := by
  have key : ∀ n, ∀ bs : Pth, bs.length = n → M bs := by
    intro n
    induction n with
    | zero => intro bs hb; rw [List.length_eq_zero_iff.mp hb]; exact h0
    | succ n ih =>
      intro bs hb
      rcases path_cases bs with rfl | ⟨cs, b, rfl⟩
      · cases hb
      · exact hs cs b (ih cs (by simpa using hb))
  exact fun bs => key _ bs rfl
/-- the path and all ahead of it, the longest first -/
def chainN : Nat → Pth → List Pth
  | 0, bs => [bs]
  | n + 1, bs => bs :: chainN n bs.dropLast
def chainOf (bs : Pth) : List Pth := chainN bs.length bs
theorem chain_nil : chainOf [] = [[]] := rfl
theorem chain_snoc (cs : Pth) (b : Bool) : chainOf (cs ++ [b]) = (cs ++ [b]) :: chainOf cs := by
  unfold chainOf
  rw [List.length_append, List.length_singleton]
  show (cs ++ [b]) :: chainN cs.length (cs ++ [b]).dropLast = _
  rw [List.dropLast_concat]
theorem chain_self (bs : Pth) : bs ∈ chainOf bs := by
  rcases path_cases bs with rfl | ⟨cs, b, rfl⟩
  · exact List.mem_cons_self
  · rw [chain_snoc]
    exact List.mem_cons_self
theorem chain_len (bs : Pth) : (chainOf bs).length = bs.length + 1 := by
  refine path_ind (M := fun bs => (chainOf bs).length = bs.length + 1) rfl (fun cs b ih => ?_) bs
  rw [chain_snoc, List.length_cons, ih]
  simp
theorem chain_le {bs c : Pth} (h : c ∈ chainOf bs) : c.length ≤ bs.length := by
  revert c
  refine path_ind (M := fun bs => ∀ {c}, c ∈ chainOf bs → c.length ≤ bs.length) (fun h => ?_) (fun cs b ih => fun h => ?_) bs
  · rw [List.mem_singleton.mp h]
    exact Nat.le_refl _
  · rw [chain_snoc] at h
    rcases List.mem_cons.mp h with rfl | h
    · exact Nat.le_refl _
    · have := ih h
      rw [List.length_append]
      omega
theorem chain_in {ps : List Pth} {bs c : Pth} (h : PathsOk ps) (hb : bs ∈ ps) (hc : c ∈ chainOf bs) : c ∈ ps := by
  refine path_ind (M := fun bs => bs ∈ ps → ∀ c, c ∈ chainOf bs → c ∈ ps) (fun hb c hc => ?_) (fun cs b ih => fun hb c hc => ?_) bs hb c hc
  · rw [List.mem_singleton.mp hc]
    exact hb
  · rw [chain_snoc] at hc
    rcases List.mem_cons.mp hc with rfl | hc
    · exact hb
    · exact ih (h.up cs b hb).1 c hc
theorem chain_ne {cs c : Pth} {b : Bool} (h : c ∈ chainOf cs) : c ≠ cs ++ [b] := fun z => by
  have := chain_le h
  rw [z, List.length_append, List.length_singleton] at this
  omega
theorem rep_snoc {α : Type} (n : Nat) (x : α) : List.replicate (n + 1) x = List.replicate n x ++ [x] := List.replicate_succ'
section
variable {p : Par} {ps : List Pth} (hp : ParOk p) (h : PathsOk ps)
theorem fl_old {st : List Nd} {m n : Nat} {seen ds : List Nat} {f r : List Str} (hn : n ∈ seen) (hr : FlRun st m seen f ds r) : ∀ k, FlRun st (m + k) seen f (ds ++ List.replicate k n) r
  | 0 => by simpa using hr
  | k + 1 => by
    rw [rep_snoc, ← List.append_assoc]
    exact .old hn (fl_old hn hr k)
include hp h in
theorem fl_path (hl : ps.length ≤ 50000) : ∀ bs, bs ∈ ps → ∀ (seen ds : List Nat) (r : List Str) (m : Nat), (∀ c ∈ chainOf bs, ps.idxOf c ∉ seen) → ds.length + 4 * (bs.length + 1) ≤ 50000 → seen.length + bs.length + 1 ≤ 50000 → FlRun (stP p ps) m (seen ++ (chainOf bs).map ps.idxOf) [p.lt] ds r → ∃ m', FlRun (stP p ps) m' seen [] (ds ++ [ps.idxOf bs]) r := by
  refine path_ind (fun hb seen ds r m hs h1 h2 hr => ?_) (fun cs b ih hb seen ds r m hs h1 h2 hr => ?_)
  · refine ⟨m + 1, .new (x := ndP p ps []) (hs [] (chain_self [])) (st_get hb) (by have := hp.let_.pos; show 1 ≤ p.lt.length; omega) (by have := hp.let_.pos; show p.lt.length ≤ 50000; omega) (by show ds.length + 0 ≤ _; omega) (by omega) (by decide) ?_⟩
    show FlRun _ _ (seen ++ [ps.idxOf []]) (if capH p.lt then [] ++ [p.lt] else []) (ds ++ []) r
    rw [hp.cl, List.append_nil]
    exact hr
  · obtain ⟨hc, hlt⟩ := h.up cs b hb
    obtain ⟨n, hn⟩ : ∃ n, p.a1 b = n + 1 := ⟨p.a1 b - 1, by have := (hp.aw b).1; omega⟩
    have ha := (hp.aw b).2
    rw [List.length_append, List.length_singleton] at h1 h2
    have hs2 : ∀ c ∈ chainOf cs, ps.idxOf c ∉ seen ++ [ps.idxOf (cs ++ [b])] := fun c hcc z => by
      rcases List.mem_append.mp z with z | z
      · exact hs c (by rw [chain_snoc]; exact List.mem_cons_of_mem _ hcc) z
      · exact chain_ne hcc (idx_inj (chain_in h hc hcc) hb (List.mem_singleton.mp z))
    rw [chain_snoc, List.map_cons] at hr
    have hr2 : FlRun (stP p ps) m (seen ++ [ps.idxOf (cs ++ [b])] ++ (chainOf cs).map ps.idxOf) [p.lt] ds r := by
      rw [List.append_assoc]
      exact hr
    have hold := fl_old (n := ps.idxOf cs) (by
      refine List.mem_append.mpr (.inr (List.mem_map.mpr ⟨cs, chain_self cs, rfl⟩))) hr2 n
    obtain ⟨m', hm'⟩ := ih hc (seen ++ [ps.idxOf (cs ++ [b])]) (ds ++ List.replicate n (ps.idxOf cs)) r _ hs2 (by rw [List.length_append, List.length_replicate]; omega) (by rw [List.length_append, List.length_singleton]; omega) hold
    refine ⟨m' + 1, .new (x := ndP p ps (cs ++ [b])) (hs _ (chain_self _)) (st_get hb) (by show 1 ≤ (wordOf p (cs ++ [b])).length; rw [wordOf_snoc]; exact (hp.lw b).1) (by have := (hp.lw b).2; show (wordOf p (cs ++ [b])).length ≤ 50000; rw [wordOf_snoc]; omega) (by show ds.length + (partsOf p ps (cs ++ [b])).length ≤ _; rw [partsOf_snoc, List.length_replicate]; omega) (by omega) (by decide) ?_⟩
    show FlRun _ _ _ (if capH (wordOf p (cs ++ [b])) then _ else _) (ds ++ (partsOf p ps (cs ++ [b])).reverse) r
    rw [wordOf_snoc, hp.cw b, partsOf_snoc, List.reverse_replicate, hn, rep_snoc, ← List.append_assoc]
    exact hm'
include hp h in
theorem first_path (hl : ps.length ≤ 50000) {bs : Pth} (hb : bs ∈ ps) (hz : bs.length ≤ 10000) : ∃ m, FlRun (stP p ps) m [] [] [ps.idxOf bs] [p.lt] := by
  have := fl_path hp h hl bs hb [] [] [p.lt] 0 (fun c _ z => by cases z) (by simp; omega) (by simp; omega) (.done (by simp))
  simpa using this
theorem tc_old {st : List Nd} {F : List (Str × Nat)} {m n : Nat} {seen ds r : List Nat} {x : Nd} (hx : st[n]? = some x) (hl : x.ls.length ≤ 40000) (hn : n ∈ seen) (hr : TcRun st F m seen ds r) : ∀ k, TcRun st F (m + k) seen (ds ++ List.replicate k n) r
  | 0 => by simpa using hr
  | k + 1 => by
    rw [rep_snoc, ← List.append_assoc]
    exact .old hx hl (.inl hn) (tc_old hx hl hn hr k)
include hp h in
theorem tc_path (hl : ps.length ≤ 50000) (v : Nat) : ∀ bs, bs ∈ ps → ∀ (seen ds : List Nat) (r : List Nat) (m : Nat), (∀ c ∈ chainOf bs, ps.idxOf c ∉ seen) → ds.length + 4 * (bs.length + 1) ≤ 50000 → seen.length + bs.length + 1 ≤ 50000 → TcRun (stP p ps) [(p.lt, v)] m (seen ++ (chainOf bs).map ps.idxOf) ds r → ∃ m', TcRun (stP p ps) [(p.lt, v)] m' seen (ds ++ [ps.idxOf bs]) r := by
  have hh : ∀ cs, hits [(p.lt, v)] (ndP p ps cs) = true := fun cs => by simp [hits, ndP]
  refine path_ind (fun hb seen ds r m hs h1 h2 hr => ?_) (fun cs b ih hb seen ds r m hs h1 h2 hr => ?_)
  · refine ⟨m + 1, .new (x := ndP p ps []) (hs [] (chain_self [])) (st_get hb) (by simp [ndP]) (hh []) (by show ds.length + 0 ≤ _; omega) (by omega) ?_⟩
    show TcRun _ _ _ (seen ++ [ps.idxOf []]) (ds ++ []) r
    rw [List.append_nil]
    exact hr
  · obtain ⟨hc, hlt⟩ := h.up cs b hb
    obtain ⟨n, hn⟩ : ∃ n, p.a1 b = n + 1 := ⟨p.a1 b - 1, by have := (hp.aw b).1; omega⟩
    have ha := (hp.aw b).2
    rw [List.length_append, List.length_singleton] at h1 h2
    have hs2 : ∀ c ∈ chainOf cs, ps.idxOf c ∉ seen ++ [ps.idxOf (cs ++ [b])] := fun c hcc z => by
      rcases List.mem_append.mp z with z | z
      · exact hs c (by rw [chain_snoc]; exact List.mem_cons_of_mem _ hcc) z
      · exact chain_ne hcc (idx_inj (chain_in h hc hcc) hb (List.mem_singleton.mp z))
    rw [chain_snoc, List.map_cons] at hr
    have hr2 : TcRun (stP p ps) [(p.lt, v)] m (seen ++ [ps.idxOf (cs ++ [b])] ++ (chainOf cs).map ps.idxOf) ds r := by
      rw [List.append_assoc]
      exact hr
    have hold := tc_old (n := ps.idxOf cs) (st_get hc) (by simp [ndP]) (by
      refine List.mem_append.mpr (.inr (List.mem_map.mpr ⟨cs, chain_self cs, rfl⟩))) hr2 n
    obtain ⟨m', hm'⟩ := ih hc (seen ++ [ps.idxOf (cs ++ [b])]) (ds ++ List.replicate n (ps.idxOf cs)) r _ hs2 (by rw [List.length_append, List.length_replicate]; omega) (by rw [List.length_append, List.length_singleton]; omega) hold
    refine ⟨m' + 1, .new (x := ndP p ps (cs ++ [b])) (hs _ (chain_self _)) (st_get hb) (by simp [ndP]) (hh _) (by show ds.length + (partsOf p ps (cs ++ [b])).length ≤ _; rw [partsOf_snoc, List.length_replicate]; omega) (by omega) ?_⟩
    show TcRun _ _ _ _ (ds ++ (partsOf p ps (cs ++ [b]))) r
    rw [partsOf_snoc, hn, rep_snoc, ← List.append_assoc]
    exact hm'
include hp h in
theorem touched_path (hl : ps.length ≤ 50000) (v : Nat) {bs : Pth} (hb : bs ∈ ps) (hz : bs.length ≤ 10000) : ∃ m, TcRun (stP p ps) [(p.lt, v)] m [] [ps.idxOf bs] ((chainOf bs).map ps.idxOf) := by
  have := tc_path hp h hl v bs hb [] [] ((chainOf bs).map ps.idxOf) 0 (fun c _ z => by cases z) (by simp; omega) (by simp; omega) (.done (by simp [chain_len]; omega))
  simpa using this
/-- the words of a path's text -/
def wl (p : Par) (bs : Pth) : List Str := bs.foldl (fun l b => p.wd b :: (List.replicate (p.a1 b) l).flatten) [p.lt]
theorem wl_nil : wl p [] = [p.lt] := rfl
theorem wl_snoc (cs : Pth) (b : Bool) : wl p (cs ++ [b]) = p.wd b :: (List.replicate (p.a1 b) (wl p cs)).flatten := by simp [wl]
theorem wl_len (bs : Pth) : (wl p bs).length = szB p bs := by
  refine path_ind (M := fun bs => (wl p bs).length = szB p bs) rfl (fun cs b ih => ?_) bs
  rw [wl_snoc, szB_snoc, List.length_cons, List.length_flatten]
  simp [ih]
  omega
theorem wr_many {st : List Nd} {j B : Nat} {w : List Str} (hj : ∀ (ds : List Nat) (ws r : List Str) (m : Nat), ds.length + B ≤ 50000 → ws.length + w.length ≤ 50000 → WrRun st m ds (ws ++ w) r → ∃ m', WrRun st m' (ds ++ [j]) ws r) : ∀ (k : Nat) (ds : List Nat) (ws r : List Str) (m : Nat), ds.length + k + B ≤ 50000 → ws.length + k * w.length ≤ 50000 → WrRun st m ds (ws ++ (List.replicate k w).flatten) r → ∃ m', WrRun st m' (ds ++ List.replicate k j) ws r
  | 0, ds, ws, r, m, _, _, hr => ⟨m, by simpa using hr⟩
  | k + 1, ds, ws, r, m, h1, h2, hr => by
    rw [rep_snoc, ← List.append_assoc]
    rw [Nat.succ_mul] at h2
    obtain ⟨m', hm'⟩ := wr_many hj k ds (ws ++ w) r m (by omega) (by rw [List.length_append]; omega) (by
      rw [List.append_assoc]
      rw [List.replicate_succ, List.flatten_cons] at hr
      exact hr)
    exact hj (ds ++ List.replicate k j) ws r m' (by rw [List.length_append, List.length_replicate]; omega) (by omega) hm'
include hp h in
theorem wr_path : ∀ bs, bs ∈ ps → ∀ (ds : List Nat) (ws r : List Str) (m : Nat), ds.length + 4 * (bs.length + 1) ≤ 50000 → ws.length + (wl p bs).length ≤ 50000 → WrRun (stP p ps) m ds (ws ++ wl p bs) r → ∃ m', WrRun (stP p ps) m' (ds ++ [ps.idxOf bs]) ws r := by
  refine path_ind (fun hb ds ws r m h1 h2 hr => ?_) (fun cs b ih hb ds ws r m h1 h2 hr => ?_)
  · refine ⟨m + 1, .step (x := ndP p ps []) (st_get hb) (by show ds.length + 0 ≤ _; omega) (by omega) ?_⟩
    show WrRun _ _ (ds ++ []) (ws ++ [p.lt]) r
    rw [List.append_nil]
    exact hr
  · obtain ⟨hc, hlt⟩ := h.up cs b hb
    have ha := (hp.aw b).2
    rw [List.length_append, List.length_singleton] at h1
    rw [wl_snoc, List.length_cons, List.length_flatten] at h2
    simp only [List.map_replicate, List.sum_replicate_nat] at h2
    rw [wl_snoc, show ws ++ p.wd b :: (List.replicate (p.a1 b) (wl p cs)).flatten = ws ++ [p.wd b] ++ (List.replicate (p.a1 b) (wl p cs)).flatten by simp] at hr
    obtain ⟨m', hm'⟩ := wr_many (B := 4 * (cs.length + 1)) (fun ds ws r m z1 z2 z3 => ih hc ds ws r m z1 z2 z3) (p.a1 b) ds (ws ++ [p.wd b]) r m (by omega) (by rw [List.length_append, List.length_singleton]; omega) hr
    refine ⟨m' + 1, .step (x := ndP p ps (cs ++ [b])) (st_get hb) (by show ds.length + (partsOf p ps (cs ++ [b])).length ≤ _; rw [partsOf_snoc, List.length_replicate]; omega) (by omega) ?_⟩
    show WrRun _ _ (ds ++ (partsOf p ps (cs ++ [b])).reverse) (ws ++ [wordOf p (cs ++ [b])]) r
    rw [wordOf_snoc, partsOf_snoc, List.reverse_replicate]
    exact hm'
include hp h in
theorem write_path {bs : Pth} (hb : bs ∈ ps) (hz : bs.length ≤ 10000) (hs : szB p bs ≤ 200) : ∃ m, WrRun (stP p ps) m [ps.idxOf bs] [] (wl p bs) := by
  have := wr_path hp h bs hb [] [] (wl p bs) 0 (by simp; omega) (by rw [wl_len]; simp; omega) (by simpa using .done)
  simpa using this
/-- a path's rows -/
def rowsOf (p : Par) (bs : Pth) : List RowN := (bs.foldl (fun (s : List RowN) b => s ++ [(p.wd b, List.replicate (p.a1 b) (s.length - 1))]) [(p.lt, [])])
theorem rows_nil : rowsOf p [] = [(p.lt, [])] := rfl
theorem rows_len (bs : Pth) : (rowsOf p bs).length = bs.length + 1 := by
  refine path_ind (M := fun bs => (rowsOf p bs).length = bs.length + 1) rfl (fun cs b ih => ?_) bs
  unfold rowsOf at ih ⊢
  rw [List.foldl_append, List.foldl_cons, List.foldl_nil, List.length_append, ih]
  simp
theorem rows_snoc (cs : Pth) (b : Bool) : rowsOf p (cs ++ [b]) = rowsOf p cs ++ [(p.wd b, List.replicate (p.a1 b) cs.length)] := by
  have := rows_len (p := p) cs
  unfold rowsOf at this ⊢
  rw [List.foldl_append, List.foldl_cons, List.foldl_nil, this]
  rfl
theorem lk_app {ms : List (Nat × Nat)} {n u k : Nat} : lk (ms ++ [(n, u)]) k = match lk ms k with
    | some x => some x
    | none => if n = k then some u else none := by
  unfold lk
  rw [List.find?_append]
  cases e : ms.find? (fun p => decide (p.1 = k)) with
  | some x => rfl
  | none =>
    by_cases z : n = k <;> simp [z]
def msP (ps : List Pth) (bs : Pth) : List (Nat × Nat) := (chainOf bs).reverse.map fun c => (ps.idxOf c, c.length)
theorem ms_snoc (cs : Pth) (b : Bool) : msP ps (cs ++ [b]) = msP ps cs ++ [(ps.idxOf (cs ++ [b]), cs.length + 1)] := by
  unfold msP
  rw [chain_snoc, List.reverse_cons, List.map_append]
  simp
include h in
theorem lk_no {bs c : Pth} (hb : bs ∈ ps) (hc : c ∈ ps) (hn : c ∉ chainOf bs) : lk (msP ps bs) (ps.idxOf c) = none := by
  unfold lk
  rw [Option.map_eq_none_iff, List.find?_eq_none]
  intro q hq
  unfold msP at hq
  obtain ⟨d, hd, rfl⟩ := List.mem_map.mp hq
  have hd := List.mem_reverse.mp hd
  simp only [decide_eq_true_eq]
  exact fun z => hn (by rw [← idx_inj (chain_in h hb hd) hc z]; exact hd)
include h in
theorem lk_self : ∀ {bs : Pth}, bs ∈ ps → lk (msP ps bs) (ps.idxOf bs) = some bs.length := by
  intro bs
  rcases path_cases bs with rfl | ⟨cs, b, rfl⟩
  · intro hb
    show lk [(ps.idxOf [], 0)] (ps.idxOf []) = some 0
    unfold lk
    simp
  · intro hb
    rw [ms_snoc, lk_app, lk_no h (h.up cs b hb).1 hb (fun z => chain_ne z rfl)]
    show (if _ then _ else _) = _
    rw [if_pos rfl]
    simp
include hp h in
theorem sh_path (hl : ps.length ≤ 50000) : ∀ bs, bs ∈ ps → ∀ (ds : List Nat) (r : List RowN) (m : Nat), ds.length + bs.length + 2 ≤ 50000 → bs.length ≤ 10000 → ShRun (stP p ps) m (msP ps bs) (rowsOf p bs) ds r → ∃ m', ShRun (stP p ps) m' [] [] (ds ++ [ps.idxOf bs]) r := by
  refine path_ind (fun hb ds r m h1 h2 hr => ?_) (fun cs b ih hb ds r m h1 h2 hr => ?_)
  · refine ⟨m + 1, .place (x := ndP p ps []) (st_get hb) rfl (fun q hq => by cases hq) (Nat.zero_le _) (by omega) (Nat.zero_le _) (Nat.zero_le _) ?_⟩
    exact hr
  · obtain ⟨hc, hlt⟩ := h.up cs b hb
    obtain ⟨n, hn⟩ : ∃ n, p.a1 b = n + 1 := ⟨p.a1 b - 1, by have := (hp.aw b).1; omega⟩
    have ha := (hp.aw b).2
    rw [List.length_append, List.length_singleton] at h1 h2
    have hps : (ndP p ps (cs ++ [b])).ps = List.replicate (p.a1 b) (ps.idxOf cs) := partsOf_snoc p ps cs b
    have hno := lk_no h hc hb (fun z => chain_ne (b := b) z rfl)
    have hplace : ShRun (stP p ps) (m + 1) (msP ps cs) (rowsOf p cs) (ds ++ [ps.idxOf (cs ++ [b])]) r := by
      refine .place (x := ndP p ps (cs ++ [b])) (st_get hb) hno (fun q hq => ?_) (by rw [hps, List.length_replicate]; omega) (by omega) (by unfold msP; rw [List.length_map, List.length_reverse, chain_len]; omega) (by rw [rows_len]; omega) ?_
      · rw [hps] at hq
        rw [List.eq_of_mem_replicate hq, lk_self h hc]
        exact fun z => by cases z
      · rw [hps, List.map_replicate, lk_self h hc, rows_len]
        rw [ms_snoc, rows_snoc] at hr
        show ShRun _ _ _ (rowsOf p cs ++ [(wordOf p (cs ++ [b]), _)]) _ _
        rw [wordOf_snoc]
        exact hr
    obtain ⟨m', hm'⟩ := ih hc (ds ++ [ps.idxOf (cs ++ [b])]) r _ (by rw [List.length_append, List.length_singleton]; omega) (by omega) hplace
    refine ⟨m' + 1, .push (x := ndP p ps (cs ++ [b])) (q := ps.idxOf cs) (qs := List.replicate n (ps.idxOf cs)) (st_get hb) rfl ?_ (by rw [hps, List.length_replicate]; omega) (by omega) hm'⟩
    rw [hps, hn]
    exact List.filter_eq_self.mpr fun q _ => rfl
include hp h in
theorem shared_path (hl : ps.length ≤ 50000) {bs : Pth} (hb : bs ∈ ps) (hz : bs.length ≤ 10000) : ∃ m, ShRun (stP p ps) m [] [] [ps.idxOf bs] (rowsOf p bs) := by
  have := sh_path hp h hl bs hb [] (rowsOf p bs) 0 (by simp; omega) hz .done
  simpa using this
end
end K87
-- A3
namespace K87
open PySem PySem.Spec PyProof.Rows L2 Evl KEv TL KDd KSq KSame KTxt KNew KRvT KD
/-! put_in and from_shared on paths -/
/-- more paths, the old ones where they were -/
structure More (ps qs : List Pth) : Prop where
  ok : PathsOk qs
  sub : ∀ c ∈ ps, c ∈ qs ∧ qs.idxOf c = ps.idxOf c
theorem More.refl {ps : List Pth} (h : PathsOk ps) : More ps ps := ⟨h, fun c hc => ⟨hc, rfl⟩⟩
theorem More.trans {ps qs rs : List Pth} (a : More ps qs) (b : More qs rs) : More ps rs := ⟨b.ok, fun c hc => ⟨(b.sub c (a.sub c hc).1).1, by rw [(b.sub c (a.sub c hc).1).2, (a.sub c hc).2]⟩⟩
theorem More.add {ps : List Pth} {bs : Pth} (h : PathsOk ps) (hp : hasPre ps bs) : More ps (addP ps bs) := ⟨h.add hp, fun c hc => ⟨addP_mem.mpr (.inl hc), addP_idx hc⟩⟩
def putAll (ps : List Pth) (qs bs : Pth) : List Pth × Pth := bs.foldl (fun s b => (addP s.1 (s.2 ++ [b]), s.2 ++ [b])) (ps, qs)
theorem putAll_2 (ps : List Pth) (qs bs : Pth) : (putAll ps qs bs).2 = qs ++ bs := by
  refine path_ind (M := fun bs => (putAll ps qs bs).2 = qs ++ bs) (by simp [putAll]) (fun cs b ih => ?_) bs
  unfold putAll at ih ⊢
  rw [List.foldl_append, List.foldl_cons, List.foldl_nil]
  show _ ++ [b] = _
  rw [ih, List.append_assoc]
theorem putAll_snoc (ps : List Pth) (qs cs : Pth) (b : Bool) : (putAll ps qs (cs ++ [b])).1 = addP (putAll ps qs cs).1 (qs ++ cs ++ [b]) := by
  have := putAll_2 ps qs cs
  unfold putAll at this ⊢
  rw [List.foldl_append, List.foldl_cons, List.foldl_nil]
  show addP _ (_ ++ [b]) = _
  rw [this]
theorem putAll_more {ps : List Pth} {qs : Pth} (h : PathsOk ps) (hq : qs ∈ ps) (bs : Pth) : More ps (putAll ps qs bs).1 ∧ (qs ++ bs) ∈ (putAll ps qs bs).1 ∧ (putAll ps qs bs).1.length ≤ ps.length + bs.length := by
  refine path_ind (M := fun bs => More ps (putAll ps qs bs).1 ∧ (qs ++ bs) ∈ (putAll ps qs bs).1 ∧ (putAll ps qs bs).1.length ≤ ps.length + bs.length) ?_ (fun cs b ih => ?_) bs
  · exact ⟨More.refl h, by rw [List.append_nil]; exact hq, Nat.le_refl _⟩
  · obtain ⟨m, hm, hl⟩ := ih
    rw [putAll_snoc]
    have hpre : hasPre (putAll ps qs cs).1 (qs ++ cs ++ [b]) := fun ds c e => by
      have := List.append_inj_left' e rfl
      rw [← this]
      exact hm
    refine ⟨m.trans (More.add m.ok hpre), addP_mem.mpr (.inr (by rw [List.append_assoc])), ?_⟩
    have := addP_len (putAll ps qs cs).1 (qs ++ cs ++ [b])
    rw [List.length_append, List.length_singleton]
    omega
/-- what was made for each part -/
def piM (ps R : List Pth) (qs bs : Pth) : List (Nat × Nat) := (chainOf bs).reverse.map fun c => (ps.idxOf c, R.idxOf (qs ++ c))
theorem piM_snoc (ps R : List Pth) (qs cs : Pth) (b : Bool) : piM ps R qs (cs ++ [b]) = piM ps R qs cs ++ [(ps.idxOf (cs ++ [b]), R.idxOf (qs ++ (cs ++ [b])))] := by
  unfold piM
  rw [chain_snoc, List.reverse_cons, List.map_append]
  simp
theorem piM_no {ps R : List Pth} {qs bs c : Pth} (h : PathsOk ps) (hb : bs ∈ ps) (hc : c ∈ ps) (hn : c ∉ chainOf bs) : lk (piM ps R qs bs) (ps.idxOf c) = none := by
  unfold lk
  rw [Option.map_eq_none_iff, List.find?_eq_none]
  intro q hq
  unfold piM at hq
  obtain ⟨d, hd, rfl⟩ := List.mem_map.mp hq
  have hd := List.mem_reverse.mp hd
  simp only [decide_eq_true_eq]
  exact fun z => hn (by rw [← idx_inj (chain_in h hb hd) hc z]; exact hd)
theorem piM_self {ps R : List Pth} {qs : Pth} (h : PathsOk ps) {bs : Pth} (hb : bs ∈ ps) : lkD (piM ps R qs bs) (ps.idxOf bs) = R.idxOf (qs ++ bs) := by
  unfold lkD
  rcases path_cases bs with rfl | ⟨cs, b, rfl⟩
  · show (lk [(ps.idxOf [], R.idxOf (qs ++ []))] (ps.idxOf [])).getD _ = _
    unfold lk
    simp
  · rw [piM_snoc, lk_app, piM_no h (h.up cs b hb).1 hb (fun z => chain_ne z rfl)]
    show Option.getD (ite _ _ _) _ = _
    rw [if_pos rfl]
    rfl
theorem piM_same {ps R R' : List Pth} {qs bs : Pth} (h : ∀ c ∈ chainOf bs, R'.idxOf (qs ++ c) = R.idxOf (qs ++ c)) : piM ps R' qs bs = piM ps R qs bs := by
  unfold piM
  exact List.map_congr_left fun c hc => by rw [h c (List.mem_reverse.mp hc)]
theorem putAll_in {ps : List Pth} {qs : Pth} (h : PathsOk ps) (hq : qs ∈ ps) (bs : Pth) : ∀ c ∈ chainOf bs, (qs ++ c) ∈ (putAll ps qs bs).1 := by
  refine path_ind (M := fun bs => ∀ c ∈ chainOf bs, (qs ++ c) ∈ (putAll ps qs bs).1) (fun c hc => ?_) (fun cs b ih c hc => ?_) bs
  · rw [List.mem_singleton.mp hc, List.append_nil]
    exact hq
  · rw [chain_snoc] at hc
    rcases List.mem_cons.mp hc with rfl | hc
    · exact (putAll_more h hq (cs ++ [b])).2.1
    · rw [putAll_snoc]
      exact addP_mem.mpr (.inl (ih c hc))
section
variable {p : Par} {ps : List Pth} (hp : ParOk p) (h : PathsOk ps)
include hp h in
theorem pi_path {qs : Pth} (hq : qs ∈ ps) : ∀ bs, bs ∈ ps → ps.length + bs.length ≤ 40000 → ∀ (rest : List Nat) (st' : List Nd) (ms' : List (Nat × Nat)), PiRun [(p.lt, ps.idxOf qs)] [p.lt] rest (stP p (putAll ps qs bs).1) (piM ps (putAll ps qs bs).1 qs bs) st' ms' → PiRun [(p.lt, ps.idxOf qs)] [p.lt] ((chainOf bs).reverse.map ps.idxOf ++ rest) (stP p ps) [] st' ms' := by
  refine path_ind (fun hb hl rest st' ms' hr => ?_) (fun cs b ih hb hl rest st' ms' hr => ?_)
  · refine .lett (v := ps.idxOf qs) (x := ndP p ps []) (st_get hb) (by have := hp.let_.pos; show 1 ≤ p.lt.length; omega) (by have := hp.let_.pos; show p.lt.length ≤ 400; omega) hp.cl (by show (p.lt, _) ∈ _; simp) rfl (Nat.zero_le _) ?_
    show PiRun _ _ rest (stP p ps) ([] ++ [(ps.idxOf [], ps.idxOf qs)]) st' ms'
    have e : piM ps (putAll ps qs []).1 qs [] = [] ++ [(ps.idxOf [], ps.idxOf qs)] := by
      unfold piM
      simp [chain_nil, putAll]
    rw [← e]
    exact hr
  · obtain ⟨hc, hlt⟩ := h.up cs b hb
    rw [List.length_append, List.length_singleton] at hl
    obtain ⟨m, hm, hml⟩ := putAll_more h hq cs
    have hcR := (m.sub cs hc)
    have hbR := (m.sub (cs ++ [b]) hb)
    have ha := hp.aw b
    rw [chain_snoc, List.reverse_cons, List.map_append, List.append_assoc]
    refine ih hc (by omega) _ st' ms' ?_
    have hpre : hasPre (putAll ps qs cs).1 (qs ++ cs ++ [b]) := fun ds c e => by
      have := List.append_inj_left' e rfl
      rw [← this]
      exact hm
    have hpp : (ndP p (putAll ps qs cs).1 (cs ++ [b])).ps = List.replicate (p.a1 b) (ps.idxOf cs) := by
      show partsOf p _ _ = _
      rw [partsOf_snoc, hcR.2]
    have hpl : (ndP p (putAll ps qs cs).1 (cs ++ [b])).ps.map (lkD (piM ps (putAll ps qs cs).1 qs cs)) = partsOf p (putAll ps qs cs).1 (qs ++ cs ++ [b]) := by
      rw [hpp, List.map_replicate, piM_self h hc, partsOf_snoc]
    have hw : (ndP p (putAll ps qs cs).1 (cs ++ [b])).w = wordOf p (qs ++ cs ++ [b]) := by
      show wordOf p _ = _
      rw [wordOf_snoc, wordOf_snoc]
    have hput := put_path hp m.ok hpre
    refine .put (x := ndP p (putAll ps qs cs).1 (cs ++ [b])) (by show (stP p (putAll ps qs cs).1)[ps.idxOf (cs ++ [b])]? = _; rw [← hbR.2]; exact st_get hbR.1) (by rw [hw, wordOf_snoc]; exact (hp.lw b).1) (by rw [hw, wordOf_snoc]; exact (hp.lw b).2) (by rw [hw, wordOf_snoc]; exact hp.cw b) (piM_no h hc hb (fun z => chain_ne z rfl)) (by unfold piM; rw [List.length_map, List.length_reverse, chain_len]; omega) (wd_path hp (by omega)) (fun i hi => ?_) (by rw [hpp, List.length_replicate]; omega) ?_
    · rw [hpl, partsOf_snoc] at hi
      rw [List.eq_of_mem_replicate hi, stP_len]
      exact List.idxOf_lt_length_of_mem hm
    · rw [hpl, hw, show (ndP p (putAll ps qs cs).1 (cs ++ [b])).kd = p.srt from rfl, hput]
      rw [putAll_snoc, piM_snoc] at hr
      have e2 : piM ps (addP (putAll ps qs cs).1 (qs ++ cs ++ [b])) qs cs = piM ps (putAll ps qs cs).1 qs cs := piM_same fun c hcc => addP_idx (putAll_in h hq cs c hcc)
      rw [e2, ← List.append_assoc qs cs [b]] at hr
      exact hr
include h in
theorem chain_sorted : ∀ bs, bs ∈ ps → ((chainOf bs).reverse.map ps.idxOf).Pairwise (· ≤ ·) ∧ ∀ c ∈ chainOf bs, ps.idxOf c ≤ ps.idxOf bs := by
  refine path_ind (fun hb => ⟨by simp [chain_nil], fun c hc => by rw [List.mem_singleton.mp hc]; exact Nat.le_refl _⟩) (fun cs b ih hb => ?_)
  obtain ⟨hc, hlt⟩ := h.up cs b hb
  obtain ⟨h1, h2⟩ := ih hc
  refine ⟨?_, fun c hcc => ?_⟩
  · rw [chain_snoc, List.reverse_cons, List.map_append, List.pairwise_append]
    refine ⟨h1, by simp, fun x hx y hy => ?_⟩
    obtain ⟨c, hcm, rfl⟩ := List.mem_map.mp hx
    have hy : y = ps.idxOf (cs ++ [b]) := by simpa using hy
    rw [hy]
    have := h2 c (List.mem_reverse.mp hcm)
    omega
  · rw [chain_snoc] at hcc
    rcases List.mem_cons.mp hcc with rfl | hcc
    · exact Nat.le_refl _
    · have := h2 c hcc
      omega
include h in
theorem ss_path {bs : Pth} (hb : bs ∈ ps) {ss : List Nat} (h1 : ss.Perm ((chainOf bs).map ps.idxOf)) (h2 : ss.Pairwise (· ≤ ·)) : ss = (chainOf bs).reverse.map ps.idxOf := by
  refine List.Perm.eq_of_pairwise (le := (· ≤ ·)) (fun a b _ _ x y => Nat.le_antisymm x y) h2 (chain_sorted h bs hb).1 (h1.trans ?_)
  exact ((List.reverse_perm _).map _).symm
include hp h in
theorem put_in_path {qs bs : Pth} (hq : qs ∈ ps) (hb : bs ∈ ps) (hl : ps.length + bs.length ≤ 40000) {ss : List Nat} (h1 : ss.Perm ((chainOf bs).map ps.idxOf)) (h2 : ss.Pairwise (· ≤ ·)) :
    ∃ ms, PiRun [(p.lt, ps.idxOf qs)] [p.lt] ss (stP p ps) [] (stP p (putAll ps qs bs).1) ms ∧ lkD ms (ps.idxOf bs) = (putAll ps qs bs).1.idxOf (qs ++ bs) := by
  rw [ss_path h hb h1 h2]
  refine ⟨piM ps (putAll ps qs bs).1 qs bs, ?_, piM_self h hb⟩
  have := pi_path hp h hq bs hb hl [] _ _ .done
  rwa [List.append_nil] at this
end
/-! the signature -/
def sortsP (p : Par) : List Row := [(p.srt, p.cap)]
def signsP (p : Par) : List Sgn := [(p.one, [p.srt], p.srt), (p.many, List.replicate p.ar p.srt, p.srt)]
theorem ws_let {p : Par} (hp : ParOk p) : wordSort (sortsP p) (signsP p) p.lt 300 = some p.srt := by
  have e1 : p.one ≠ p.lt := hp.wne false
  have e2 : p.many ≠ p.lt := hp.wne true
  unfold wordSort signsP
  rw [List.find?_cons, List.find?_cons, decide_eq_false e1, decide_eq_false e2]
  show (if letterB (tl p.lt) 300 = true then _ else _) = _
  rw [if_pos hp.lb]
  unfold sortsP
  rw [List.find?_cons, decide_eq_true hp.hcap]
  rfl
theorem ws_wd {p : Par} (hp : ParOk p) (b : Bool) : wordSort (sortsP p) (signsP p) (p.wd b) 300 = some p.srt := by
  unfold wordSort signsP
  cases b
  · rw [List.find?_cons, decide_eq_true (show p.one = p.wd false from rfl)]
  · rw [List.find?_cons, List.find?_cons, decide_eq_false (show ¬ p.one = p.wd true from hp.ne), decide_eq_true (show p.many = p.wd true from rfl)]
theorem sg_wd {p : Par} (hp : ParOk p) (b : Bool) : (signsP p).find? (fun r => decide (r.1 = p.wd b)) = some (p.wd b, List.replicate (p.a1 b) p.srt, p.srt) := by
  unfold signsP
  cases b
  · rw [List.find?_cons, decide_eq_true (show p.one = p.wd false from rfl)]
    rfl
  · rw [List.find?_cons, List.find?_cons, decide_eq_false (show ¬ p.one = p.wd true from hp.ne), decide_eq_true (show p.many = p.wd true from rfl)]
    rfl
theorem ws_none {p : Par} (hp : ParOk p) : wordSort (sortsP p) (signsP p) "none0" 300 = none := by
  unfold wordSort signsP
  rw [List.find?_cons, List.find?_cons, decide_eq_false hp.n1, decide_eq_false hp.n2]
  show (if letterB (tl "none0") 300 = true then _ else _) = _
  rw [if_neg (by decide +kernel)]
theorem wants_let {p : Par} (hp : ParOk p) : wants (signsP p) p.lt = [] := by
  unfold wants
  rw [if_pos hp.cl]
theorem wants_wd {p : Par} (hp : ParOk p) (b : Bool) : wants (signsP p) (p.wd b) = List.replicate (p.a1 b) p.srt := by
  unfold wants argsOf
  rw [if_neg (by rw [hp.cw b]; decide), sg_wd hp b]
/-! rows that name earlier rows -/
abbrev Rf := Option (Bool × Nat)
def rowRf (p : Par) : Rf → RowI
  | none => (p.lt, [])
  | some (b, k) => (p.wd b, List.replicate (p.a1 b) (k : Int))
def runRf : List Pth → List Rf → List Pth
  | qs, [] => qs
  | qs, none :: r => runRf (qs ++ [[]]) r
  | qs, some (b, k) :: r => runRf (qs ++ [qs.getD k [] ++ [b]]) r
def okRf : Nat → List Rf → Prop
  | _, [] => True
  | n, none :: r => okRf (n + 1) r
  | n, some (_, k) :: r => k < n ∧ okRf (n + 1) r
theorem runRf_len : ∀ (rfs : List Rf) (qs : List Pth), (runRf qs rfs).length = qs.length + rfs.length
  | [], qs => rfl
  | none :: r, qs => by
    unfold runRf
    rw [runRf_len r]
    simp
    omega
  | some (b, k) :: r, qs => by
    unfold runRf
    rw [runRf_len r]
    simp
    omega
theorem map_idx_more {ps ps' qs : List Pth} (m : More ps ps') (hq : ∀ q ∈ qs, q ∈ ps) : qs.map ps'.idxOf = qs.map ps.idxOf := List.map_congr_left fun q h => (m.sub q (hq q h)).2
theorem fs_run {p : Par} (hp : ParOk p) : ∀ (rfs : List Rf) (ps qs : List Pth), PathsOk ps → (∀ q ∈ qs, q ∈ ps) → okRf qs.length rfs → ps.length + rfs.length ≤ 40000 → qs.length + rfs.length ≤ 40000 →
    ∃ ps', More ps ps' ∧ (∀ q ∈ runRf qs rfs, q ∈ ps') ∧ ps'.length ≤ ps.length + rfs.length ∧ ∀ (tail : List RowI) (o : List Nd × List Nat × Option Nat), FsRun [p.lt] (sortsP p) (signsP p) tail (stP p ps') ((runRf qs rfs).map ps'.idxOf) o → FsRun [p.lt] (sortsP p) (signsP p) (rfs.map (rowRf p) ++ tail) (stP p ps) (qs.map ps.idxOf) o
  | [], ps, qs, h, hq, _, _, _ => ⟨ps, More.refl h, hq, Nat.le_refl _, fun _ _ z => z⟩
  | none :: r, ps, qs, h, hq, ho, hl, hl2 => by
    have hpre : hasPre ps [] := fun ds c e => by
      have := congrArg List.length e
      simp at this
    have m1 := More.add h hpre
    have hq1 : ∀ q ∈ qs ++ [[]], q ∈ addP ps [] := fun q hqm => (List.mem_append.mp hqm).elim (fun z => addP_mem.mpr (.inl (hq q z))) fun z => addP_mem.mpr (.inr (List.mem_singleton.mp z))
    have hal := addP_len ps []
    rw [List.length_cons] at hl hl2
    obtain ⟨ps', m2, hq2, hl3, hr⟩ := fs_run hp r (addP ps []) (qs ++ [[]]) m1.ok hq1 (by rw [List.length_append]; exact ho) (by omega) (by rw [List.length_append, List.length_singleton]; omega)
    refine ⟨ps', m1.trans m2, hq2, by rw [List.length_cons]; omega, fun tail o z => ?_⟩
    have hz := hr tail o z
    rw [List.map_append, map_idx_more m1 hq] at hz
    have hput := put_path hp h hpre
    have hpos := hp.let_.pos
    show FsRun _ _ _ ((p.lt, []) :: (r.map (rowRf p) ++ tail)) _ _ o
    refine .good (kd := p.srt) (wd_path hp (by omega)) (fun n hn => ?_) (by rw [List.length_map]; omega) (by show 1 ≤ p.lt.length; omega) (by show p.lt.length ≤ 400; omega) (fun _ _ => by show p.lt ∈ _; simp) ⟨by show (wordSort _ _ p.lt 300).isSome = true; rw [ws_let hp]; rfl, by show ([] : List Int).length = (wants (signsP p) p.lt).length; rw [wants_let hp]; rfl, fun j hj => absurd hj (Nat.not_lt_zero j)⟩ (ws_let hp) ?_
    · obtain ⟨q, hqm, rfl⟩ := List.mem_map.mp hn
      rw [stP_len]
      exact List.idxOf_lt_length_of_mem (hq q hqm)
    · show FsRun _ _ _ _ (putS (stP p ps) (wordOf p []) (partsOf p ps []) p.srt).1 (qs.map ps.idxOf ++ [(putS (stP p ps) (wordOf p []) (partsOf p ps []) p.srt).2]) o
      rw [hput]
      exact hz
  | some (b, k) :: r, ps, qs, h, hq, ho, hl, hl2 => by
    obtain ⟨hk, ho⟩ := ho
    obtain ⟨c, hc⟩ : ∃ c, qs[k]? = some c := ⟨_, List.getElem?_eq_getElem hk⟩
    have hgd : qs.getD k [] = c := by rw [List.getD_eq_getElem?_getD, hc]; rfl
    have hcp := hq c (List.mem_of_getElem? hc)
    have hpre : hasPre ps (c ++ [b]) := fun ds d e => by
      have := List.append_inj_left' e rfl
      rw [← this]
      exact hcp
    have m1 := More.add h hpre
    have hq1 : ∀ q ∈ qs ++ [c ++ [b]], q ∈ addP ps (c ++ [b]) := fun q hqm => (List.mem_append.mp hqm).elim (fun z => addP_mem.mpr (.inl (hq q z))) fun z => addP_mem.mpr (.inr (List.mem_singleton.mp z))
    have hal := addP_len ps (c ++ [b])
    rw [List.length_cons] at hl hl2
    obtain ⟨ps', m2, hq2, hl3, hr⟩ := fs_run hp r (addP ps (c ++ [b])) (qs ++ [c ++ [b]]) m1.ok hq1 (by rw [List.length_append]; exact ho) (by omega) (by rw [List.length_append, List.length_singleton]; omega)
    refine ⟨ps', m1.trans m2, by unfold runRf; rw [hgd]; exact hq2, by rw [List.length_cons]; omega, fun tail o z => ?_⟩
    unfold runRf at z
    rw [hgd] at z
    have hz := hr tail o z
    rw [List.map_append, map_idx_more m1 hq] at hz
    have hput := put_path hp h hpre
    rw [wordOf_snoc, partsOf_snoc] at hput
    have hg2 : (qs.map ps.idxOf).getD k 0 = ps.idxOf c := by rw [List.getD_eq_getElem?_getD, List.getElem?_map, hc]; rfl
    have hrp : rowPs (qs.map ps.idxOf) (p.wd b, List.replicate (p.a1 b) (k : Int)) = List.replicate (p.a1 b) (ps.idxOf c) := by
      unfold rowPs
      rw [List.map_replicate, Int.toNat_natCast, hg2]
    show FsRun _ _ _ ((p.wd b, List.replicate (p.a1 b) (k : Int)) :: (r.map (rowRf p) ++ tail)) _ _ o
    refine .good (kd := p.srt) (wd_path hp (by omega)) (fun n hn => ?_) (by rw [List.length_map]; omega) (hp.lw b).1 (hp.lw b).2 (fun z => by rw [show ((p.wd b, List.replicate (p.a1 b) (k : Int)) : RowI).1 = p.wd b from rfl, hp.cw b] at z; cases z) ⟨by show (wordSort _ _ (p.wd b) 300).isSome = true; rw [ws_wd hp b]; rfl, by show (List.replicate (p.a1 b) (k : Int)).length = (wants (signsP p) (p.wd b)).length; rw [wants_wd hp b, List.length_replicate, List.length_replicate], fun j hj => ?_⟩ (ws_wd hp b) ?_
    · obtain ⟨q, hqm, rfl⟩ := List.mem_map.mp hn
      rw [stP_len]
      exact List.idxOf_lt_length_of_mem (hq q hqm)
    · have hj : j < p.a1 b := by simpa using hj
      show partOk _ _ (List.replicate (p.a1 b) (k : Int)) (wants (signsP p) (p.wd b)) j = true
      unfold partOk
      rw [wants_wd hp b, List.getElem?_replicate, List.getElem?_replicate, if_pos hj, if_pos hj]
      simp only [Int.toNat_natCast, hg2, List.length_map]
      have : kdOf (stP p ps) (ps.idxOf c) = some p.srt := by
        unfold kdOf
        rw [st_get hcp]
        rfl
      rw [this]
      simp
      exact hk
    · rw [hrp, show ((p.wd b, List.replicate (p.a1 b) (k : Int)) : RowI).1 = p.wd b from rfl, hput]
      exact hz
end K87
-- B1
namespace K87
open PySem PySem.Spec PyProof.Rows L2 Evl KEv TL KDd KSq KSame KTxt KNew KRvT KD NumText
/-! _law_is_number, _law_digits -/
theorem num_back {l : List Nat} (h : AllDigits l) (hne : l ≠ []) (hz : 1 < l.length → l.headD 0 ≠ 48) : numL (digitsVal l) = l := by
  have h0 : (numL (digitsVal l)).length ≤ l.length := by
    have z := dv_lt l 0 h
    exact numL_len (List.length_pos_iff.mpr hne) (by simpa [digitsVal] using z)
  have h1 : l.length ≤ (numL (digitsVal l)).length := by
    have hp : 0 < (numL (digitsVal l)).length := List.length_pos_iff.mpr (numL_ne _)
    cases l with
    | nil => exact absurd rfl hne
    | cons c r =>
      cases r with
      | nil => exact hp
      | cons e r =>
        have hc := h.head
        have hc2 : c ≠ 48 := hz (by simp)
        have ge := dv_ge (e :: r) (0 * 10 + (c - 48))
        have lt := numL_lt_pow (digitsVal (c :: e :: r))
        have e1 : digitsVal (c :: e :: r) = (e :: r).foldl (fun acc c => acc * 10 + (c - 48)) (0 * 10 + (c - 48)) := rfl
        rw [← e1] at ge
        refine Decidable.byContradiction fun hlt => ?_
        have hle : (numL (digitsVal (c :: e :: r))).length ≤ (e :: r).length := by
          rw [List.length_cons] at hlt
          omega
        have hm := Nat.pow_le_pow_right (show 0 < 10 by decide) hle
        have : 1 * 10 ^ (e :: r).length ≤ (0 * 10 + (c - 48)) * 10 ^ (e :: r).length := Nat.mul_le_mul_right _ (by omega)
        omega
  have hl := Nat.le_antisymm h0 h1
  have hv : (numL (digitsVal l)).foldl (fun acc c => acc * 10 + (c - 48)) 0 = l.foldl (fun acc c => acc * 10 + (c - 48)) 0 := numL_val (digitsVal l)
  have d1 := dv_lex (numL (digitsVal l)) l 0 hl (numL_digits _) h
  have d2 := dv_lex l (numL (digitsVal l)) 0 hl.symm h (numL_digits _)
  rw [hv] at d1 d2
  exact List.le_antisymm (List.not_lt.mp fun z => Nat.lt_irrefl _ (d2.mpr z)) (List.not_lt.mp fun z => Nat.lt_irrefl _ (d1.mpr z))
structure DigOk (x : Str) : Prop where
  l1 : 1 ≤ (tl x).length
  l2 : (tl x).length ≤ 300
  al : ∀ c ∈ tl x, c ∈ tl digits
  z : 1 < (tl x).length → (tl x).headD 0 ≠ 48
theorem dig_all {l : List Nat} (h : ∀ c ∈ l, c ∈ tl digits) : AllDigits l := fun c hc => by
  have a : ∀ c ∈ tl digits, 48 ≤ c ∧ c ≤ 57 := by decide
  have := a c (h c hc)
  omega
/-- a capital and digits: a letter -/
theorem let_dig {c : Nat} {x : Str} (hc : c ∈ tl capitals) (h : DigOk x) : IsLet (⟨#[c]⟩ ++ x) ∧ letterB (tl ((⟨#[c]⟩ : Str) ++ x)) 300 = true := by
  have e : tl ((⟨#[c]⟩ : Str) ++ x) = c :: tl x := by rw [tl_append]; rfl
  have hne : tl x ≠ [] := fun z => by have := h.l1; rw [z] at this; cases this
  refine ⟨⟨c, digitsVal (tl x), hc, by rw [e, num_back (dig_all h.al) hne h.z], by rw [len_tl, e, List.length_cons]; have := h.l2; omega⟩, ?_⟩
  rw [e]
  unfold letterB
  have h1 := h.l1
  have h2 := h.l2
  have h3 := h.z
  have al := h.al
  cases hx : tl x with
  | nil => exact absurd hx hne
  | cons f r =>
    rw [hx] at h1 h2 h3 al
    rw [List.length_cons] at h1 h2 h3
    simp only [Bool.and_eq_true, decide_eq_true_eq, List.length_cons, Bool.not_eq_true', List.drop_succ_cons, List.drop_zero, List.all_eq_true]
    refine ⟨⟨⟨⟨by omega, by omega⟩, ?_⟩, ?_⟩, fun z hz => al z hz⟩
    · exact decide_eq_true hc
    · by_cases hl : 1 < r.length + 1
      · have : f ≠ 48 := h3 hl
        show (decide (f = 48) && decide (2 < r.length + 1 + 1)) = false
        rw [decide_eq_false this]
        rfl
      · show (decide (f = 48) && decide (2 < r.length + 1 + 1)) = false
        rw [decide_eq_false (show ¬ 2 < r.length + 1 + 1 by omega), Bool.and_false]
section
variable {K : PySem.W.Frag} {σ : L2.St} {B : Hp} {d : Addr} {to te : TE}
theorem join_tl0 : ∀ ys : List Str, tl (Str.join "" ys) = (ys.map tl).flatten
  | [] => rfl
  | [x] => by simp [Str.join]
  | x :: z :: r => by
    have ih := join_tl0 (z :: r)
    show tl (x ++ "" ++ Str.join "" (z :: r)) = _
    rw [tl_append, tl_append, ih, List.map_cons, List.flatten_cons]
    show tl x ++ [] ++ _ = _
    rw [List.append_nil]
    rfl
/-- drawn signs, joined -/
theorem eg_joinC {S : List Nat} {n1 n0 : Nat} (ho : Ev to σ B (.str "")) (hm : n0 ≤ 100000) (he : EvG te σ B d fun u B' => ∃ p xs, u = .ref p ∧ B p = none ∧ B' p = some (.lst xs) ∧ n1 ≤ xs.length ∧ xs.length ≤ n0 ∧ ∀ x ∈ xs, ∃ c, x = .str ⟨#[c]⟩ ∧ c ∈ S) :
    EvG (tM1 (rJoinS K) to te) σ B d fun u _ => ∃ x, u = .str x ∧ n1 ≤ (tl x).length ∧ (tl x).length ≤ n0 ∧ ∀ c ∈ tl x, c ∈ S := fun H s Q q =>
  ho H s.ex _ fun H2 e2 => ⟨⟨_, rfl⟩, he H2 (s.mono e2) _ fun v B3 H3 e3 s3 r3 => by
    obtain ⟨p, xs, rfl, _, hp, h1, h2, hx⟩ := r3
    have key : ∀ xs : List V, (∀ x ∈ xs, ∃ c, x = .str ⟨#[c]⟩ ∧ c ∈ S) → ∃ cs : List Nat, xs = (cs.map fun c => (⟨#[c]⟩ : Str)).map V.str ∧ ∀ c ∈ cs, c ∈ S := by
      intro xs
      induction xs with
      | nil => intro _; exact ⟨[], rfl, fun c hc => by cases hc⟩
      | cons x xs ih =>
        intro h
        obtain ⟨c, rfl, hc⟩ := h x List.mem_cons_self
        obtain ⟨cs, hcs, hS⟩ := ih fun y hy => h y (List.mem_cons_of_mem _ hy)
        exact ⟨c :: cs, by rw [hcs]; rfl, fun y hy => by
          rcases List.mem_cons.mp hy with rfl | hy
          · exact hc
          · exact hS y hy⟩
    obtain ⟨cs, rfl, hS⟩ := key xs hx
    rw [List.length_map, List.length_map] at h1 h2
    have e1 : tl (Txt.join "" (cs.map fun c => (⟨#[c]⟩ : Str))) = cs := by
      rw [join_eq, join_tl0, List.map_map]
      clear h1 h2 hx hp hS
      induction cs with
      | nil => rfl
      | cons c cs ih => rw [List.map_cons, List.flatten_cons, ih]; rfl
    have e2 : ((cs.map fun c => (⟨#[c]⟩ : Str)).map (·.length)).sum = cs.length := by
      clear h1 h2 hx hp hS e1
      induction cs with
      | nil => rfl
      | cons c cs ih =>
        rw [List.map_cons, List.map_cons, List.sum_cons, ih, List.length_cons]
        show 1 + _ = _
        omega
    refine ⟨"", p, _, rfl, rfl, .inl (sq_of (s3.ex _ _ hp)), ?_, q _ B3 H3 e3 s3 ⟨_, rfl, by rw [e1]; exact h1, by rw [e1]; exact h2, fun c hc => hS c (by rw [e1] at hc; exact hc)⟩⟩
    rw [e2, show (("" : Str).length) = 0 from rfl]
    omega⟩
end
section
variable {P : Program} {w : World} {K : PySem.W.Frag} {mg : Str → Option Value} {base : Heap}
def spIsNum : Sp := fun vs H Q _ => ∃ n : Int, vs = [.int n] ∧ RetV (.bl true) H Q
theorem scIn : FnScope ["told"] ["told"] (defScope (topS 29)) := ⟨rfl, rfl, rfl, by decide +kernel, rfl, by decide +kernel, by decide +kernel⟩
theorem ok_is_number {f : Addr} {fd : FuncData} (D : DefAt K mg 29 "_law_is_number" ["told"] f fd) (M : NmS mg) : FnOk P w K mg base CX0 1 f fd ["told"] spIsNum := by
  refine D.F.ok scIn (fun vs H Q E h => ?_) (fun cdv A outer s H vs Q E hr h => ?_)
  · obtain ⟨n, rfl, _⟩ := h
    rfl
  · obtain ⟨n, rfl, k⟩ := h
    refine ⟨_, (pss_one (ps_ret (pe_and (pe_callB (r := rIsi K) call_isi (by rfl) M.isi (by decide +kernel) (pa_cons (pv 0) (pa_cons (pe_bltn (v := .ty "int") (by rfl) M.int (by decide +kernel) rfl) pa_nil))) (pe_one (pe_not (pe_callB (r := rIsi K) call_isi (by rfl) M.isi (by decide +kernel) (pa_cons (pv 0) (pa_cons (pe_bltn (v := .ty "bool") (by rfl) M.bool (by decide +kernel) rfl) pa_nil)))))))), ?_⟩
    have ty : ∀ H1, Ex H H1 → TyX K H1 (.int n) (.type "int") := fun _ _ => .base (.int n)
    exact s_ret (ev_is (ev_andV (a := true) (ev_isi (ev_var rfl) ty (by decide +kernel)) fun _ => ev_notV (a := false) (ev_isi (ev_var rfl) ty (by decide +kernel))) (by simp)) k
abbrev TakeAt (P : Program) (w : World) (K : PySem.W.Frag) (mg : Str → Option Value) (base : Heap) (f : Addr) (fd : FuncData) : Prop := GenAt P w K mg base 1 "_law_take" ["draws", "many"] spTake f fd
abbrev spDigits : Sp := spGen (fun rest _ => rest = []) (fun _ v _ => ∃ x : Str, v = .str x ∧ DigOk x)
theorem scDi : FnScope ["draws", "many", "k", "digits"] ["draws"] (defScope (topS 30)) := ⟨rfl, rfl, rfl, by decide +kernel, rfl, by decide +kernel, by decide +kernel⟩
theorem ok_digits {f ft : Addr} {fd fdt : FuncData} (D : DefAt K mg 30 "_law_digits" ["draws"] f fd) (T : TakeAt P w K mg base ft fdt) (N : Nm mg) (M : NmS mg) : FnOk P w K mg base CX0 2 f fd ["draws"] spDigits := by
  refine D.F.ok scDi (fun vs H Q E h => ?_) (fun cdv A outer s H vs Q E hr h => ?_)
  · obtain ⟨d, rest, rfl, _, rfl, _⟩ := h
    rfl
  · obtain ⟨d, rest, rfl, hd, rfl, k⟩ := h
    have s0 := Sd.of hd
    refine ⟨_, (pss_cons (ps_asg (pe_ix (r := rIxL K) ix_list (pe_lst (pa_cons pe_int (pa_cons pe_int (pa_cons pe_int (pa_cons pe_int (pa_cons pe_int (pa_cons pe_int (pa_cons pe_int (pa_cons pe_int pa_nil))))))))) (pe_call T.F (hr.mono (by decide)) (by rfl) T.g T.kp T.b .nil pass0 (pa_cons (pv 0) (pa_cons pe_int pa_nil))) (fun _ _ => rfl)) (pg_name (i := 1) scDi.nd rfl (.inl rfl))) (pss_cons (ps_asg (pe_joinS pe_str (pe_lc (own := [("k", 2)]) (g := gName 2) rfl scDi.nd (pi_range1 (by rfl) M.range (pa_cons (pv 1) pa_nil)) (blkOk_by (own := [("k", 2)]) (N := ["draws", "many", "k", "digits"]) (sc := defScope (topS 30)) (by decide +kernel)) (fun _ _ _ _ _ => pg_name (i := 2) scDi.nd rfl (.inl rfl) (hf := .inr rfl)) (fun _ _ _ _ _ => pts_nil) (fun _ _ _ _ _ => (pe_ix ix_str pe_str (pe_call T.F (hr.mono (by decide)) (by rfl) T.g T.kp T.b .nil pass0 (pa_cons (pv 0) (pa_cons pe_int pa_nil))) (fun _ _ => rfl))))) (pg_name (i := 3) scDi.nd rfl (.inl rfl))) (pss_cons (ps_if (PW.pt (pw_and (pt_cmpR op_gt (pv 1) pe_int (nomark _)) (pw_and1 (pt_cmpR op_eq (pe_ix ix_str (pv 3) pe_int (fun _ _ => rfl)) pe_str (nomark _))))) (pss_one (ps_asg (pe_op op_addS pe_str (pe_slice sl_str (pv 3) (po_some pe_int) po_none)) (pg_name (i := 3) scDi.nd rfl (.inl rfl)))) pss_nil) (pss_one (ps_ret (pv 3)))))), ?_⟩
    refine gq_asg (B := hide H d) (d := d) (R := fun v _ => ∃ n : Nat, v = .int (n : Int) ∧ 1 ≤ n ∧ n ≤ 300) (eg_itemN (n := 8) (Pv := fun v => ∃ n : Nat, v = .int (n : Int) ∧ 1 ≤ n ∧ n ≤ 300) (EvG.sd (eg_liftL (xs := [.int 1, .int 1, .int 2, .int 9, .int 10, .int 60, .int 299, .int 300]) (el_lst (ea_cons ev_c (ea_cons ev_c (ea_cons ev_c (ea_cons ev_c (ea_cons ev_c (ea_cons ev_c (ea_cons ev_c (ea_cons ev_c ea_nil)))))))) (by decide))) fun v B1 r => ?_) fun B1 => EvG.sd (eg_takeN (m := 8) (ev_var rfl) ev_c (by decide)) fun v B2 r => r) s0 fun v B1 H1 e1 s1 r => ?_
    · obtain ⟨q, rfl, _, _, rfl⟩ := r
      refine ⟨q, _, rfl, upd_same, by decide, fun v hv => ?_⟩
      simp only [List.mem_cons, List.not_mem_nil, or_false] at hv
      rcases hv with rfl | rfl | rfl | rfl | rfl | rfl | rfl | rfl
      · exact ⟨1, rfl, by decide, by decide⟩
      · exact ⟨1, rfl, by decide, by decide⟩
      · exact ⟨2, rfl, by decide, by decide⟩
      · exact ⟨9, rfl, by decide, by decide⟩
      · exact ⟨10, rfl, by decide, by decide⟩
      · exact ⟨60, rfl, by decide, by decide⟩
      · exact ⟨299, rfl, by decide, by decide⟩
      · exact ⟨300, rfl, by decide, by decide⟩
    · obtain ⟨n, rfl, n1, n2⟩ := r
      refine gq_asg (R := fun u _ => ∃ x, u = .str x ∧ n ≤ (tl x).length ∧ (tl x).length ≤ n ∧ ∀ c ∈ tl x, c ∈ tl digits) (eg_joinC (S := tl digits) ev_c (by omega) (eg_lcR2 (n1 := n) (n0 := n) (Kp := fun x => ∃ c, x = .str ⟨#[c]⟩ ∧ c ∈ tl digits) (ega_sd (ega_lift (ea_cons (ev_var rfl) ea_nil)) fun us B2 _ r => ⟨n, r.1, Nat.le_refl n, Nat.le_refl n⟩) (by omega) (fun _ => rfl) fun i B2 _ => eg_signN (n := 10) (w := digits) ev_c (eg_takeN (m := 10) (ev_var rfl) ev_c (by decide)) (by decide) (by decide))) s1 fun v B2 H2 e2 s2 r => ?_
      obtain ⟨x, rfl, l1, l2, al⟩ := r
      have hl : (tl x).length = n := by omega
      have hx : x.length = n := by rw [len_tl, hl]
      have hc : ∃ c r, x.cps.toList = c :: r := by
        cases e : x.cps.toList with
        | nil =>
          have : (tl x).length = 0 := by show x.cps.toList.length = 0; rw [e]; rfl
          omega
        | cons c r => exact ⟨c, r, rfl⟩
      obtain ⟨c0, r0, ec⟩ := hc
      have ecl : tl x = c0 :: r0 := ec
      have tt : EvT (tAnd (tTest (tOp (rI0 fun i j => .bl (decide (i > j))) (tVar 1) (tC (.int 1)))) (tTest (tOp rEq (tOp rIxS (tVar 2) (tC (.int 0))) (tC (.str "0"))))) [some (.ref d), some (.int (n : Int)), some (.str x), none] B2 (decide (1 < n) && decide (c0 = 48)) :=
        et_is (et_and (et_test (ev_op (ev_var rfl) ev_c rv_I0)) fun _ => et_test (ev_op (ev_op (ev_var rfl) ev_c (rv_ixS (by omega) (by rw [ec]; exact atI_nat (j := 0) rfl))) ev_c (rv_eq rfl))) (by rw [zero_eq]; congr 1; exact decide_eq_decide.mpr (by omega))
      by_cases hb : (decide (1 < n) && decide (c0 = 48)) = true
      · refine gq_when (b := true) (et_is tt hb) s2 (fun _ H3 s3 => ?_) (fun z => by cases z)
        have hlen : (tl ((⟨#[55]⟩ : Str) ++ cutS x (some 1) none)) = 55 :: r0 := by rw [tl_append, tl_cut1, ecl]; rfl
        refine s_asg (v := .str ("7" ++ cutS x (some 1) none)) (ev_op ev_c (ev_slS (ev_var rfl) (eo_some ev_c) eo_none (by omega)) (rv_addS (by rw [show (("7" : Str).length) = 1 from rfl]; have := cutS_length x (some 1) none; omega))) fun H4 e4 => ?_
        refine s_ret (ev_var rfl) fun H5 e5 => k _ B2 H5 (e1.trans e2) ((s3.mono e4).mono e5) ⟨_, rfl, ?_⟩
        have e7 : tl ("7" ++ cutS x (some 1) none) = 55 :: r0 := hlen
        have hrl : r0.length + 1 = n := by rw [← hl, ecl]; rfl
        refine ⟨by rw [e7]; simp, by rw [e7, List.length_cons]; omega, fun c hc => ?_, fun _ => by rw [e7]; exact (by decide : (55 : Nat) ≠ 48)⟩
        rw [e7] at hc
        rcases List.mem_cons.mp hc with rfl | hc
        · decide
        · exact al c (by rw [ecl]; exact List.mem_cons_of_mem _ hc)
      · have hb : (decide (1 < n) && decide (c0 = 48)) = false := by simpa using hb
        refine gq_when (b := false) (et_is tt hb) s2 (fun z => by cases z) (fun _ H3 s3 => ?_)
        refine s_ret (ev_var rfl) fun H5 e5 => k _ B2 H5 (e1.trans e2) (s3.mono e5) ⟨x, rfl, by omega, by omega, al, fun h1 => ?_⟩
        rw [ecl]
        intro z
        have z : c0 = 48 := z
        rw [z, decide_eq_true (show 1 < n by omega)] at hb
        cases hb
end
end K87
-- B2
namespace K87
open PySem PySem.Spec PyProof.Rows L2 Evl KEv TL KDd KSq KSame KTxt KNew KRvT KD
/-! _law_made, _law_put, _law_sizes -/
section
variable {p : Par}
theorem rows_get {bs : Pth} {j : Nat} {b : Bool} (h : bs[j]? = some b) : (rowsOf p bs)[j + 1]? = some (p.wd b, List.replicate (p.a1 b) j) := by
  revert h
  refine path_ind (M := fun bs => bs[j]? = some b → (rowsOf p bs)[j + 1]? = some (p.wd b, List.replicate (p.a1 b) j)) (fun h => by cases h) (fun cs c ih h => ?_) bs
  rw [rows_snoc]
  by_cases hj : j < cs.length
  · rw [List.getElem?_append_left hj] at h
    rw [List.getElem?_append_left (by rw [rows_len]; omega)]
    exact ih h
  · have hl := (List.getElem?_eq_some_iff.mp h).1
    rw [List.length_append, List.length_singleton] at hl
    have ej : j = cs.length := by omega
    subst ej
    rw [List.getElem?_append_right (Nat.le_refl _)] at h
    rw [List.getElem?_append_right (by rw [rows_len]; omega), rows_len]
    simp at h ⊢
    rw [h]
    exact ⟨rfl, rfl⟩
theorem rows_zero (bs : Pth) : (rowsOf p bs)[0]? = some (p.lt, []) := by
  refine path_ind (M := fun bs => (rowsOf p bs)[0]? = some (p.lt, [])) rfl (fun cs c ih => ?_) bs
  rw [rows_snoc, List.getElem?_append_left (by rw [rows_len]; omega)]
  exact ih
theorem rows_mem {bs : Pth} {r : RowN} (h : r ∈ rowsOf p bs) : r = (p.lt, []) ∨ ∃ j b, bs[j]? = some b ∧ r = (p.wd b, List.replicate (p.a1 b) j) := by
  obtain ⟨i, hi⟩ := List.getElem?_of_mem h
  cases i with
  | zero =>
    rw [rows_zero] at hi
    exact .inl (Option.some.inj hi).symm
  | succ j =>
    have hl := (List.getElem?_eq_some_iff.mp hi).1
    rw [rows_len] at hl
    obtain ⟨b, hb⟩ : ∃ b, bs[j]? = some b := ⟨_, List.getElem?_eq_getElem (by omega)⟩
    rw [rows_get hb] at hi
    exact .inr ⟨j, b, hb, (Option.some.inj hi).symm⟩
theorem rows_fresh (hp : ParOk p) {bs : Pth} {w : Str} {n k : Nat} (hn : 1 ≤ n) (hk : bs.length ≤ k) : (w, List.replicate n k) ∉ rowsOf p bs := fun h => by
  obtain ⟨m, rfl⟩ : ∃ m, n = m + 1 := ⟨n - 1, by omega⟩
  rcases rows_mem h with z | ⟨j, b, hb, z⟩
  · have := (Prod.mk.inj z).2
    rw [List.replicate_succ] at this
    cases this
  · have := rep_inj (by omega) (Prod.mk.inj z).2
    have := (List.getElem?_eq_some_iff.mp hb).1
    omega
theorem rows_str (hp : ParOk p) {bs : Pth} {r : RowN} (h : r ∈ rowsOf p bs) : PyData.strOk r.1 = true := by
  rcases rows_mem h with rfl | ⟨j, b, _, rfl⟩
  · exact let_ok hp.let_
  · cases b
    · exact hp.s1
    · exact hp.s2
end
theorem toI_inj {a b : RowN} : toI a = toI b ↔ a = b := by
  obtain ⟨x, xs⟩ := a
  obtain ⟨y, ys⟩ := b
  unfold toI
  constructor
  · intro h
    have h1 := (Prod.mk.inj h).1
    have h2 := (Prod.mk.inj h).2
    have : xs = ys := by
      clear h h1
      induction xs generalizing ys with
      | nil => cases ys with
        | nil => rfl
        | cons _ _ => cases h2
      | cons x xs ih => cases ys with
        | nil => cases h2
        | cons y ys =>
          have z := List.cons.inj h2
          have z1 : x = y := Int.ofNat.inj z.1
          rw [z1, ih ys z.2]
    rw [show x = y from h1, this]
  · intro h
    rw [h]
/-- rows as data -/
def rowsD (rs : List RowN) : List PyData := rs.map fun r => rowD (toI r)
theorem lay_rows : ∀ {rs : List RowN}, (∀ r ∈ rs, PyData.strOk r.1 = true) → PyData.canLayAll0 (rowsD rs) = true
  | [], _ => rfl
  | r :: rs, h => by
    unfold rowsD
    rw [List.map_cons]
    have h1 := lay_row (r := toI r) (h r List.mem_cons_self)
    have h2 := lay_rows fun r hr => h r (List.mem_cons_of_mem _ hr)
    unfold rowsD at h2
    simp [PyData.canLayAll0, h1, h2]
theorem depth_rows : ∀ rs : List RowN, PyData.depthAll (rowsD rs) ≤ 2
  | [] => by simp [rowsD, PyData.depthAll]
  | r :: rs => by
    have := depth_rows rs
    have := depth_row (toI r)
    unfold rowsD at this ⊢
    rw [List.map_cons]
    simp only [PyData.depthAll]
    unfold rowsD at *
    omega
theorem shaped_rows {rs : List RowN} (h : ∀ r ∈ rs, PyData.strOk r.1 = true) : SeqAt.shaped (.list (rowsD rs)) = true := by
  unfold SeqAt.shaped
  have h1 := lay_rows h
  have h2 := depth_rows rs
  rw [Bool.and_eq_true, decide_eq_true_eq]
  exact ⟨by simpa [PyData.canLay0] using h1, by simp only [PyData.depth]; omega⟩
theorem dp_rows {K : PySem.W.Frag} {H : Hp} : ∀ {ads : List Addr} {rs : List RowN}, RowsT H ads rs → DpAll K H (ads.map V.ref) (rowsD rs)
  | [], [], _ => .nil
  | a :: ads, r :: rs, h => .cons (dp_row (by rw [row_toI]; exact h.at_ 0 a r rfl rfl)) (dp_rows ⟨by simpa using h.len, fun i q s z1 z2 => h.at_ (i + 1) q s z1 z2⟩)
  | [], _ :: _, h => by cases h.len
  | _ :: _, [], h => by cases h.len
theorem any_rows (rs : List RowN) (r : RowN) : ((rowsD rs).any fun z => PyData.eqv z (rowD (toI r))) = decide (r ∈ rs) := by
  unfold rowsD
  rw [List.any_map]
  induction rs with
  | nil => rfl
  | cons s rs ih =>
    rw [List.any_cons, ih]
    show (PyData.eqv (rowD (toI s)) (rowD (toI r)) || _) = _
    rw [eqv_row]
    by_cases e : s = r
    · rw [decide_eq_true (toI_inj.mpr e), decide_eq_true (show r ∈ s :: rs by rw [e]; exact List.mem_cons_self)]
      rfl
    · rw [decide_eq_false (fun z => e (toI_inj.mp z)), Bool.false_or]
      exact decide_eq_decide.mpr ⟨fun z => List.mem_cons_of_mem _ z, fun z => (List.mem_cons.mp z).elim (fun z => absurd z.symm e) id⟩
section
variable {P : Program} {w : World} {K : PySem.W.Frag} {mg : Str → Option Value} {base : Heap} {σ : L2.St} {H : Hp} {ta tb te : TE} {l : Addr} {xs ys : List V} {D : Ends} {tz : TS} {F : List Addr} {R : V → Hp → Prop}
theorem el_catLV {a : Addr} (ha : EvL ta σ H xs) (hb : Ev tb σ H (.ref a)) (h1 : H a = some (.lst ys)) (hl : xs.length + ys.length ≤ 100000) : EvL (tOp rCat ta tb) σ H (xs ++ ys) := fun H1 e Q q =>
  ha H1 e _ fun p H2 hp e2 h2 => hb H2 (e.trans e2) _ fun H3 e3 => ⟨p, a, xs, ys, rfl, rfl, e3 _ _ h2, e3 _ _ (e2 _ _ (e _ _ h1)), sz_of hl, fun r hr => q r _ (fresh_back (e2.trans e3) hr) ((e2.trans e3).trans (Ex.new hr)) upd_same⟩
theorem s_appP (hl : H l = some (.lst xs)) (ha : ∀ H1, Ev ta σ H1 (.ref l)) (h : ∀ H1, Ex H H1 → EvP F te σ H1 R) (k : ∀ v H1, ExB F H H1 → R v H1 → ∃ ys, H1 l = some (.lst ys) ∧ ys.length < 100000 ∧ D.nx σ (L2.upd H1 l (.lst (ys ++ [v])))) : tDrop (tBM K "list" rAppend ta (tCons te tNil)) D σ H :=
  ha H H (Ex.refl H) _ fun H1 e1 => ⟨Or.inl ⟨rfl, xs, sq_of (e1 _ _ hl)⟩, h H1 e1 H1 (Ex.refl H1) _ fun v H2 x2 r => by
    obtain ⟨ys, h1, h2, h3⟩ := k v H2 (fun b o hb ho => x2 b o hb (e1 _ _ ho)) r
    exact ⟨l, ys, v, rfl, rfl, h1, sz_lt h2, h3⟩⟩
theorem era3L {tc : TE} {x y : V} (h1 : Ev ta σ H x) (h2 : Ev tb σ H y) (h3 : EvL tc σ H xs) : EvRA (tCons ta (tCons tb (tCons tc tNil))) σ H fun vs G => ∃ p, vs = [x, y, .ref p] ∧ G p = some (.lst xs) := fun H1 e Q q =>
  h1 H1 e _ fun H2 e2 => h2 H2 (e.trans e2) _ fun H3 e3 => h3 H3 ((e.trans e2).trans e3) _ fun p H4 hp e4 h => q _ H4 ((e2.trans e3).trans e4) ⟨p, rfl, h⟩
theorem ev_sumN {ns : List Int} (h : EvL te σ H (ns.map V.int)) : Ev (tCB (rSum K) (tCons te tNil)) σ H (.int ns.sum) := fun H1 e Q q => h H1 e _ fun p H2 _ e2 h2 => ⟨p, ns, rfl, sq_of h2, q H2 e2⟩
def spMadeR : Sp := fun vs H Q _ => ∃ (l lp : Addr) (x : Str) (ads : List Addr) (rs : List RowN) (ns : List Nat), vs = [.ref l, .str x, .ref lp] ∧ H l = some (.lst (ads.map V.ref)) ∧ RowsT H ads rs ∧ H lp = some (.lst (nV ns)) ∧ (x, ns) ∉ rs ∧ (∀ r ∈ rs, PyData.strOk r.1 = true) ∧ PyData.strOk x = true ∧ rs.length ≤ 50000 ∧ ns.length ≤ 1000 ∧
  ∀ q H', H q = none → ExB [l] H H' → H' l = some (.lst ((ads ++ [q]).map V.ref)) → H' q = some (.tup (rowV (x, ns))) → Q (.int (rs.length : Int)) H'
theorem scMd : FnScope ["rows", "word", "places", "row"] ["rows", "word", "places"] (defScope (topS 31)) := ⟨rfl, rfl, rfl, by decide +kernel, rfl, by decide +kernel, by decide +kernel⟩
theorem ok_made {f : Addr} {fd : FuncData} (D : DefAt K mg 31 "_law_made" ["rows", "word", "places"] f fd) (M : NmS mg) : FnOk P w K mg base CX0 1 f fd ["rows", "word", "places"] spMadeR := by
  refine D.F.ok scMd (fun vs H Q E h => ?_) (fun cdv A outer s H vs Q E hr h => ?_)
  · obtain ⟨l, lp, x, ads, rs, ns, rfl, _⟩ := h
    rfl
  · obtain ⟨l, lp, x, ads, rs, ns, rfl, hl, hR, hlp, hno, hso, hx, z1, z2, k⟩ := h
    have hu65 : (A.deeper (envOfC "_law_made" (defScope (topS 31)) s.heap.objs.size f cdv)).units + 65 < cLine := by have := hr.un; omega
    refine ⟨_, (pss_cons (ps_asg (pe_callTy (T := "tuple") (call_tupK (K := K) rfl) (by rfl) M.tuple (by decide +kernel) (pa_cons (pe_op (r := rCat) op_cat (pe_lst (pa_cons (pv 1) pa_nil)) (pv 2)) pa_nil)) (pg_name (i := 3) scMd.nd rfl (.inl rfl))) (pss_cons (ps_if (pt_cmpR (r := rNotInD K) (op_notInD hu65) (pv 3) (pv 0) rfl) (pss_one (ps_expr (pe_bm PySem.F.plainAttrs_list PySem.F.slot_list_append PySem.F.type_list_append mt_append (pv 0) (pa_cons (pv 3) pa_nil)))) pss_nil) (pss_one (ps_ret (pe_bm (r := rIndexD K) PySem.F.plainAttrs_list PySem.F.slot_list_index PySem.F.type_list_index (mt_indexD hu65) (pv 0) (pa_cons (pv 3) pa_nil)))))), ?_⟩
    refine q_asgU (xs := rowV (x, ns)) (eu_tupN (el_catLV (xs := [.str x]) (ys := nV ns) (el_lst (ea_cons (ev_var rfl) ea_nil) (by simp)) (ev_var rfl) hlp (by simp; omega))) fun q H1 nq e1 hq => ?_
    have hR1 := hR.mono e1
    have hl1 := e1 _ _ hl
    have sx : PyData.strOk (toI (x, ns)).1 = true := hx
    have hrv : RV (rNotInD K) (.ref q) (.ref l) H1 (.bl (!decide ((x, ns) ∈ rs))) := fun H2 e2 Q k => ⟨rowD (toI (x, ns)), rowsD rs, dp_row (by rw [row_toI]; exact e2 _ _ hq), .lst (sq_of (e2 _ _ hl1)) (dp_rows (hR1.mono e2)), shaped_row sx, shaped_rows hso, by rw [any_rows]; exact k H2 (Ex.refl H2)⟩
    refine q_when (b := true) (et_is (et_test (ev_op (ev_var rfl) (ev_var rfl) hrv)) (by rw [decide_eq_false hno]; rfl)) (fun _ H2 e2 => ?_) (fun z => by cases z)
    refine s_app (e2 _ _ hl1) (ev_var rfl) (ev_var rfl) (by rw [List.length_map, hR.len]; omega) fun H3 e3 => ?_
    have e23 := e2.trans e3
    have nql : q ≠ l := fun z => by rw [z, hl] at nq; cases nq
    have hl4 : (L2.upd H3 l (.lst (ads.map V.ref ++ [.ref q]))) l = some (.lst ((ads ++ [q]).map V.ref)) := by rw [upd_same, List.map_append]; rfl
    have hq4 : (L2.upd H3 l (.lst (ads.map V.ref ++ [.ref q]))) q = some (.tup (rowV (x, ns))) := by rw [upd_ne nql]; exact e23 _ _ hq
    have hR4 : RowsT (L2.upd H3 l (.lst (ads.map V.ref ++ [.ref q]))) (ads ++ [q]) (rs ++ [(x, ns)]) := ((hR1.mono e23).upd (e23 _ _ hl1) (fun _ z => by cases z)).snoc hq4
    have x4 : ExB [l] H (L2.upd H3 l (.lst (ads.map V.ref ++ [.ref q]))) := fun b o hb ho => by
      rw [upd_ne (fun z => hb (by rw [z]; exact List.mem_cons_self))]
      exact e23 _ _ (e1 _ _ ho)
    generalize hg : L2.upd H3 l (.lst (ads.map V.ref ++ [.ref q])) = H4 at hl4 hq4 hR4 x4
    have hso4 : ∀ r ∈ rs ++ [(x, ns)], PyData.strOk r.1 = true := fun r hr => by
      rcases List.mem_append.mp hr with z | z
      · exact hso r z
      · rw [List.mem_singleton.mp z]
        exact hx
    -- rows.index(row)
    show tRet (tBM K "list" (rIndexD K) (tVar 0) (tCons (tVar 3) tNil)) _ [some (.ref l), some (.str x), some (.ref lp), some (.ref q)] H4
    refine s_retR (R := fun v G => v = .int (rs.length : Int) ∧ Ex H4 G) (fun H4' e4' Q1 q1 => (ev_var (i := 0) (v := .ref l) rfl) H4' e4' _ fun H5 e5 => ⟨Or.inl ⟨rfl, _, sq_of (e5 _ _ (e4' _ _ hl4))⟩, (ea_cons (ev_var (v := .ref q) rfl) ea_nil) H5 (e4'.trans e5) _ fun H6 e6 => ?_⟩) fun v H6 e6 hv => by
      obtain ⟨rfl, _⟩ := hv
      exact k q H6 nq (x4.ex e6) (e6 _ _ hl4) (e6 _ _ hq4)
    have e56 := (e4'.trans e5).trans e6
    refine ⟨l, .ref q, rowD (toI (x, ns)), rowsD (rs ++ [(x, ns)]), rs.length, rowD (toI (x, ns)), rfl, rfl, .lst (sq_of (e56 _ _ hl4)) (dp_rows (hR4.mono e56)), dp_row (by rw [row_toI]; exact e56 _ _ hq4), shaped_rows hso4, shaped_row sx, ?_, by rw [eqv_row]; simp, fun m z' hm hz => ?_, ?_⟩
    · unfold rowsD
      rw [List.getElem?_map, List.getElem?_append_right (Nat.le_refl _)]
      simp
    · unfold rowsD at hz
      rw [List.getElem?_map, List.getElem?_append_left hm] at hz
      obtain ⟨r, hr', rfl⟩ := Option.map_eq_some_iff.mp hz
      rw [eqv_row]
      exact decide_eq_false fun e => hno (by rw [← toI_inj.mp e]; exact List.mem_of_getElem? hr')
    · exact q1 _ H6 (e5.trans e6) ⟨rfl, e56⟩
/-- row[1:] -/
theorem eu_row1 {tt : TE} {a : Addr} {r : RowN} (h : Ev tt σ H (.ref a)) (hr : H a = some (.tup (rowV r))) : EvU (tSl (rSlT K) tt (tPart (tC (.int 1))) tNoPart) σ H (nV r.2) := by
  have := eu_sl (K := K) (tlo := tPart (tC (.int 1))) (thi := tNoPart) h (eo_some ev_c) eo_none (st_of hr) (by
    intro z
    have z1 := z.1
    have : (rowV r).length = r.2.length + 1 := by unfold rowV; simp
    rw [this] at z1
    simp [HT.sIx] at z1)
  rwa [show cutV (rowV r) (some 1) none = nV r.2 from cut1 _ _] at this
theorem nV_rep (n k : Nat) : nV (List.replicate n k) = List.replicate n (.int (k : Int)) := List.map_replicate
/-- one more row of a path -/
theorem take_snoc {bs : Pth} {j : Nat} {b : Bool} (h : bs[j]? = some b) : bs.take (j + 1) = bs.take j ++ [b] := by
  rw [List.take_add_one, h]
  rfl
def spPutR (p : Par) : Sp := fun vs H Q _ => ∃ (lr li : Addr) (ad1 ad2 : List Addr) (bo bi : Pth), vs = [.ref lr, .ref li] ∧ H lr = some (.lst (ad1.map V.ref)) ∧ RowsT H ad1 (rowsOf p bo) ∧ H li = some (.lst (ad2.map V.ref)) ∧ RowsT H ad2 (rowsOf p bi) ∧ bo.length ≤ 10000 ∧ bi.length ≤ 10000 ∧
  ∀ q ads H', H q = none → Ex H H' → H' q = some (.lst (ads.map V.ref)) → RowsT H' ads (rowsOf p (bi ++ bo)) → Q (.ref q) H'
theorem scPu : FnScope ["rows", "inner", "found", "at", "row", "k"] ["rows", "inner"] (defScope (topS 32)) := ⟨rfl, rfl, rfl, by decide +kernel, rfl, by decide +kernel, by decide +kernel⟩
theorem ok_putR {p : Par} (hp : ParOk p) {f fm : Addr} {fd fdm : FuncData} (D : DefAt K mg 32 "_law_put" ["rows", "inner"] f fd) (MD : GenAt P w K mg base 1 "_law_made" ["rows", "word", "places"] spMadeR fm fdm) (N : Nm mg) (M : NmS mg) : FnOk P w K mg base CX0 2 f fd ["rows", "inner"] (spPutR p) := by
  refine D.F.ok scPu (fun vs H Q E h => ?_) (fun cdv A outer s H vs Q E hr h => ?_)
  · obtain ⟨lr, li, ad1, ad2, bo, bi, rfl, _⟩ := h
    rfl
  · obtain ⟨lr, li, ad1, ad2, bo, bi, rfl, h1, hR1, h2, hR2, z1, z2, k⟩ := h
    refine ⟨_, (pss_cons (ps_asg (pe_callTy (r := rListS K) call_list_of (by rfl) M.list (by decide +kernel) (pa_cons (pv 1) pa_nil)) (pg_name (i := 2) scPu.nd rfl (.inl rfl))) (pss_cons (ps_asg (pe_lst pa_nil) (pg_name (i := 3) scPu.nd rfl (.inr rfl))) (pss_cons (ps_for PassesOwn.never rfl (pi_list (pv 0)) (pg_name (i := 4) scPu.nd rfl (.inl rfl)) (pss_one (ps_if (pt_cmpR op_eq (pe_callB (r := rLenS K) call_len_seq (by rfl) N.len PySem.boot_len (pa_cons (pv 4) pa_nil)) pe_int (nomark _)) (pss_one (ps_expr (pe_bm PySem.F.plainAttrs_list PySem.F.slot_list_append PySem.F.type_list_append mt_append (pv 3) (pa_cons (pe_op op_sub (pe_callB (r := rLenS K) call_len_seq (by rfl) N.len PySem.boot_len (pa_cons (pv 1) pa_nil)) pe_int) pa_nil)))) (pss_one (ps_expr (pe_bm PySem.F.plainAttrs_list PySem.F.slot_list_append PySem.F.type_list_append mt_append (pv 3) (pa_cons (pe_call MD.F (hr.mono (by decide)) (by rfl) MD.g MD.kp MD.b .nil pass0 (pa_cons (pv 2) (pa_cons (pe_ix (r := rIxT K) ix_tup (pv 4) pe_int (fun _ _ => rfl)) (pa_cons (pe_lc (own := [("k", 5)]) (g := gName 5) rfl scPu.nd (pi_seq (pe_slice (r := rSlT K) sl_tup (pv 4) (po_some pe_int) po_none)) (blkOk_by (own := [("k", 5)]) (N := ["rows", "inner", "found", "at", "row", "k"]) (sc := defScope (topS 32)) (by decide +kernel)) (fun _ _ _ _ _ => pg_name (i := 5) scPu.nd rfl (.inl rfl) (hf := .inr rfl)) (fun _ _ _ _ _ => pts_nil) (fun _ _ _ _ _ => (pe_ix (r := rIxL K) ix_list (pv 3) (pv 5) (fun _ _ => rfl)))) pa_nil)))) pa_nil))))))) (pss_one (ps_ret (pv 2)))))), ?_⟩
    refine q_asgL (xs := ad2.map V.ref) (fun G1 g1 Q q => (ev_var (v := .ref li) rfl) G1 g1 _ fun G2 g2 => ⟨li, _, rfl, .inl (sq_of (g2 _ _ (g1 _ _ h2))), fun l hl => q l _ (fresh_back g2 hl) (g2.trans (Ex.new hl)) upd_same⟩) fun pf H1 n1 e1 hf1 => ?_
    refine q_asgL (el_lst ea_nil (by decide)) fun pa H2 n2 e2 ha2 => ?_
    have e12 := e1.trans e2
    have xf : H pf = none := n1
    have xa : H pa = none := fresh_back e1 n2
    have dfa : pf ≠ pa := fun z => by rw [← z, hf1] at n2; cases n2
    refine q_forL (xs := ad1.map V.ref) (ev_var rfl) (sq_of (e12 _ _ h1)) (fun i σ' H' => ∃ (ads : List Addr) (u4 u5 : Option V), σ' = [some (.ref lr), some (.ref li), some (.ref pf), some (.ref pa), u4, u5] ∧ Ex H H' ∧ H' pf = some (.lst (ads.map V.ref)) ∧ RowsT H' ads (rowsOf p (bi ++ bo.take (i - 1))) ∧ H' pa = some (.lst (nV ((List.range i).map fun j => bi.length + j)))) (fun H3 e3 => ⟨ad2, none, none, rfl, e12.trans e3, e3 _ _ (e2 _ _ hf1), by rw [show bo.take (0 - 1) = [] from rfl, List.append_nil]; exact hR2.mono (e12.trans e3), e3 _ _ ha2⟩) (fun i σ' H' _ q => ?_) (fun i v σ' H' hv q => ?_) (fun σ' H' q => ?_)
    · obtain ⟨_, _, _, _, e, _⟩ := q
      exact sq_of (e _ _ h1)
    · obtain ⟨ads, u4, u5, rfl, e, hf, hRf, ha⟩ := q
      rw [List.getElem?_map] at hv
      obtain ⟨q, hq, rfl⟩ := Option.map_eq_some_iff.mp hv
      have hi := (List.getElem?_eq_some_iff.mp hq).1
      rw [hR1.len, rows_len] at hi
      show tIfS _ _ _ _ [some (.ref lr), some (.ref li), some (.ref pf), some (.ref pa), some (.ref q), u5] H'
      cases i with
      | zero =>
        have hqt := e _ _ (hR1.at_ 0 q (p.lt, []) hq (rows_zero bo))
        refine s_if (b := true) (et_is (et_test (ev_op (ev_lenT2 (ev_var rfl) hqt) ev_c (rv_eq rfl))) rfl) (fun _ G1 g1 => ?_) (fun z => by cases z)
        refine s_app (v := .int (bi.length : Int)) (g1 _ _ ha) (ev_var rfl) (ev_is (ev_op (ev_len (ev_var rfl) (sq_of (g1 _ _ (e _ _ h2)))) ev_c rv_I0) (by rw [List.length_map, hR2.len, rows_len]; congr 1; omega)) (by simp) fun G2 g2 => ?_
        have g12 := g1.trans g2
        refine ⟨ads, _, _, rfl, (e.trans g12).mut xa, by rw [upd_ne dfa]; exact g12 _ _ hf, (hRf.mono g12).upd (g12 _ _ ha) (fun _ z => by cases z), by rw [upd_same]; rfl⟩
      | succ j =>
        obtain ⟨b, hb⟩ : ∃ b, bo[j]? = some b := ⟨_, List.getElem?_eq_getElem (by omega)⟩
        have hqt := e _ _ (hR1.at_ (j + 1) q _ hq (rows_get hb))
        have haw := hp.aw b
        have hlen : (rowV (p.wd b, List.replicate (p.a1 b) j)).length = p.a1 b + 1 := by unfold rowV; simp
        refine s_if (b := false) (et_is (et_test (ev_op (ev_lenT2 (ev_var rfl) hqt) ev_c (rv_eq rfl))) (by rw [hlen]; exact decide_eq_false fun z => by have := V.int.inj z; omega)) (fun z => by cases z) (fun _ G1 g1 => ?_)
        have hRf' : RowsT G1 ads (rowsOf p (bi ++ bo.take j)) := hRf.mono g1
        have hjl : j ≤ bo.length := by omega
        have htl : (bi ++ bo.take j).length = bi.length + j := by rw [List.length_append, List.length_take]; omega
        refine s_appP (F := [pf]) (R := fun v G => v = .int ((bi.length + (j + 1) : Nat) : Int) ∧ ∃ ads', G pf = some (.lst (ads'.map V.ref)) ∧ RowsT G ads' (rowsOf p (bi ++ bo.take (j + 1)))) (g1 _ _ ha) (fun _ => ev_var rfl) (fun G2 g2 => ?_) (fun v G2 x2 hv => ?_)
        · intro G3 g3 Q q3
          have g13 := g2.trans g3
          have hlc : EvL (tLc (iSeq K (tSl (rSlT K) (tVar 4) (tPart (tC (.int 1))) tNoPart)) (gName 5) tYes (tOp (rIxL K) (tVar 3) (tVar 5)) [5]) [some (.ref lr), some (.ref li), some (.ref pf), some (.ref pa), some (.ref q), u5] G3 (nV (List.replicate (p.a1 b) (bi.length + j))) := by
            have h0 := el_lcUM (K := K) (te := tOp (rIxL K) (tVar 3) (tVar 5)) (j := 5) (vs := [5]) (xs := nV (List.replicate (p.a1 b) j)) (List.replicate (p.a1 b) j) (fun _ => V.int ((bi.length + j : Nat) : Int)) (eu_row1 (K := K) (tt := tVar 4) (σ := [some (.ref lr), some (.ref li), some (.ref pf), some (.ref pa), some (.ref q), u5]) (ev_var rfl) ((g1.trans g13) _ _ hqt)) (by simp) (by simp; omega) (fun _ => rfl) (fun i x r G4 g4 hx hr => ?_)
            · rw [List.map_replicate] at h0
              rw [nV_rep]
              exact h0
            · have hr2 := List.eq_of_mem_replicate (List.mem_of_getElem? hr)
              rw [List.getElem?_map, hr] at hx
              obtain rfl := Option.some.inj hx
              rw [hr2]
              refine ev_op (ev_var rfl) (ev_var rfl) (rv_ixL (sq_of (g4 _ _ ((g1.trans g13) _ _ ha))) (atI_nat ?_))
              rw [List.getElem?_map, List.getElem?_map, List.getElem?_range (by omega)]
              rfl
          refine (era3L (ta := tVar 2) (tb := tOp (rIxT K) (tVar 4) (tC (.int 0))) (x := .ref pf) (y := .str (p.wd b)) (ev_var rfl) (ev_op (ev_var rfl) ev_c (rv_ixT (st_of (g13 _ _ (g1 _ _ hqt))) (atI_nat (j := 0) rfl))) hlc) G3 (Ex.refl G3) _ fun vs G6 g36 hvs => ?_
          obtain ⟨lp, rfl, hlp⟩ := hvs
          have g16 := g13.trans g36
          refine ⟨pf, lp, p.wd b, ads, rowsOf p (bi ++ bo.take j), List.replicate (p.a1 b) (bi.length + j), rfl, g16 _ _ (g1 _ _ hf), hRf'.mono g16, hlp, rows_fresh hp (by omega) (by omega), fun r hr => rows_str hp hr, by cases b <;> first | exact hp.s1 | exact hp.s2, by rw [rows_len]; omega, by simp; omega, fun q2 G7 nq2 x7 hpf7 hq7 => ?_⟩
          refine q3 _ G7 (fun b' o hb' ho => x7 b' o hb' (g36 _ _ ho)) ⟨?_, ads ++ [q2], hpf7, ?_⟩
          · rw [rows_len, htl]
            rfl
          · rw [take_snoc hb, ← List.append_assoc, rows_snoc, htl]
            have hRn : RowsT G7 ads (rowsOf p (bi ++ bo.take j)) := ⟨hRf'.len, fun i q' r z3 z4 => by
              have := (hRf'.mono g16).at_ i q' r z3 z4
              exact x7 _ _ (fun z => by rw [List.mem_singleton.mp z, g16 _ _ (g1 _ _ hf)] at this; cases this) this⟩
            exact hRn.snoc hq7
        · obtain ⟨rfl, ads', hf2, hR'⟩ := hv
          have ha2' : G2 pa = some (.lst (nV ((List.range (j + 1)).map fun j => bi.length + j))) := x2 _ _ (fun z => dfa (List.mem_singleton.mp z).symm) (g1 _ _ ha)
          refine ⟨_, ha2', by simp; omega, ads', _, _, rfl, ?_, by rw [upd_ne dfa]; exact hf2, hR'.upd ha2' (fun _ z => by cases z), ?_⟩
          · intro b' o ho
            rw [upd_ne (fun z => by rw [z, xa] at ho; cases ho)]
            exact x2 _ _ (fun z => by rw [List.mem_singleton.mp z, xf] at ho; cases ho) ((e.trans g1) _ _ ho)
          · rw [upd_same, List.range_succ (n := j + 1), List.map_append, nV_app]
            rfl
    · obtain ⟨ads, u4, u5, rfl, e, hf, hRf, ha⟩ := q
      rw [List.length_map, hR1.len, rows_len, Nat.add_sub_cancel, List.take_length] at hRf
      exact s_ret (ev_var rfl) fun G1 g1 => k pf ads G1 xf (e.trans g1) (g1 _ _ hf) (hRf.mono g1)
/-- the sizes along a path -/
def szs (p : Par) (bs : Pth) (n : Nat) : List Nat := (List.range n).map fun i => szB p (bs.take i)
def spSizes (p : Par) : Sp := fun vs H Q _ => ∃ (lr : Addr) (ad : List Addr) (bs : Pth), vs = [.ref lr] ∧ H lr = some (.lst (ad.map V.ref)) ∧ RowsT H ad (rowsOf p bs) ∧ bs.length ≤ 10000 ∧ RetL (nV (szs p bs (bs.length + 1))) H Q
theorem scSi : FnScope ["rows", "sizes", "row", "k"] ["rows"] (defScope (topS 33)) := ⟨rfl, rfl, rfl, by decide +kernel, rfl, by decide +kernel, by decide +kernel⟩
theorem sum_repI (n s : Nat) : ((List.replicate n (s : Int))).sum = ((n * s : Nat) : Int) := by
  induction n with
  | zero => simp
  | succ n ih =>
    rw [List.replicate_succ, List.sum_cons, ih, Nat.succ_mul]
    omega
theorem ok_sizes {p : Par} (hp : ParOk p) {f : Addr} {fd : FuncData} (D : DefAt K mg 33 "_law_sizes" ["rows"] f fd) (ME : NmE mg) : FnOk P w K mg base CX0 1 f fd ["rows"] (spSizes p) := by
  refine D.F.ok scSi (fun vs H Q E h => ?_) (fun cdv A outer s H vs Q E hr h => ?_)
  · obtain ⟨lr, ad, bs, rfl, _⟩ := h
    rfl
  · obtain ⟨lr, ad, bs, rfl, h1, hR, hz, k⟩ := h
    refine ⟨_, (pss_cons (ps_asg (pe_lst pa_nil) (pg_name (i := 1) scSi.nd rfl (.inr rfl))) (pss_cons (ps_for PassesOwn.never rfl (pi_list (pv 0)) (pg_name (i := 2) scSi.nd rfl (.inl rfl)) (pss_one (ps_expr (pe_bm PySem.F.plainAttrs_list PySem.F.slot_list_append PySem.F.type_list_append mt_append (pv 1) (pa_cons (pe_op op_add pe_int (pe_callB (r := rSum K) (cr_sum (by rfl)) (by rfl) ME.sum (by decide +kernel) (pa_cons (pe_lc (own := [("k", 3)]) (g := gName 3) rfl scSi.nd (pi_seq (pe_slice (r := rSlT K) sl_tup (pv 2) (po_some pe_int) po_none)) (blkOk_by (own := [("k", 3)]) (N := ["rows", "sizes", "row", "k"]) (sc := defScope (topS 33)) (by decide +kernel)) (fun _ _ _ _ _ => pg_name (i := 3) scSi.nd rfl (.inl rfl) (hf := .inr rfl)) (fun _ _ _ _ _ => pts_nil) (fun _ _ _ _ _ => (pe_ix (r := rIxL K) ix_list (pv 1) (pv 3) (fun _ _ => rfl)))) pa_nil))) pa_nil))))) (pss_one (ps_ret (pv 1))))), ?_⟩
    refine q_asgL (el_lst ea_nil (by decide)) fun pa H2 n2 e2 ha2 => ?_
    refine q_forL (xs := ad.map V.ref) (ev_var rfl) (sq_of (e2 _ _ h1)) (fun i σ' H' => ∃ (u2 u3 : Option V), σ' = [some (.ref lr), some (.ref pa), u2, u3] ∧ Ex H H' ∧ H' pa = some (.lst (nV (szs p bs i)))) (fun H3 e3 => ⟨none, none, rfl, e2.trans e3, e3 _ _ ha2⟩) (fun i σ' H' _ q => ?_) (fun i v σ' H' hv q => ?_) (fun σ' H' q => ?_)
    · obtain ⟨_, _, _, e, _⟩ := q
      exact sq_of (e _ _ h1)
    · obtain ⟨u2, u3, rfl, e, ha⟩ := q
      rw [List.getElem?_map] at hv
      obtain ⟨q, hq, rfl⟩ := Option.map_eq_some_iff.mp hv
      have hi := (List.getElem?_eq_some_iff.mp hq).1
      rw [hR.len, rows_len] at hi
      obtain ⟨r, hr', hsz⟩ : ∃ r, (rowsOf p bs)[i]? = some r ∧ ∃ n s, (∀ k ∈ r.2, k < i ∧ szB p (bs.take k) = s) ∧ r.2.length = n ∧ n ≤ 4 ∧ szB p (bs.take i) = 1 + n * s := by
        cases i with
        | zero => exact ⟨_, rows_zero bs, 0, 0, fun k hk => (by cases hk), rfl, by decide, rfl⟩
        | succ j =>
          obtain ⟨b, hb⟩ : ∃ b, bs[j]? = some b := ⟨_, List.getElem?_eq_getElem (by omega)⟩
          refine ⟨_, rows_get hb, p.a1 b, szB p (bs.take j), fun k hk => ?_, by simp, (hp.aw b).2, by rw [take_snoc hb, szB_snoc]⟩
          have := List.eq_of_mem_replicate hk
          exact ⟨by omega, by rw [this]⟩
      obtain ⟨n, sv, hk, hrl, hn4, hsum⟩ := hsz
      have hqt := e _ _ (hR.at_ i q r hq hr')
      show tDrop _ _ [some (.ref lr), some (.ref pa), some (.ref q), u3] H'
      have hlc : EvL (tLc (iSeq K (tSl (rSlT K) (tVar 2) (tPart (tC (.int 1))) tNoPart)) (gName 3) tYes (tOp (rIxL K) (tVar 1) (tVar 3)) [3]) [some (.ref lr), some (.ref pa), some (.ref q), u3] H' ((List.replicate n (sv : Int)).map V.int) := by
        have h0 := el_lcUM (K := K) (te := tOp (rIxL K) (tVar 1) (tVar 3)) (j := 3) (vs := [3]) (xs := nV r.2) r.2 (fun _ => V.int (sv : Int)) (eu_row1 (K := K) (tt := tVar 2) (σ := [some (.ref lr), some (.ref pa), some (.ref q), u3]) (ev_var rfl) hqt) (by simp) (by omega) (fun _ => rfl) (fun m x kk G4 g4 hx hkk => ?_)
        · rw [List.map_replicate]
          rw [show r.2.map (fun _ => V.int (sv : Int)) = List.replicate n (V.int (sv : Int)) by rw [← hrl]; exact List.map_const' ..] at h0
          exact h0
        · obtain ⟨k1, k2⟩ := hk kk (List.mem_of_getElem? hkk)
          rw [List.getElem?_map, hkk] at hx
          obtain rfl := Option.some.inj hx
          refine ev_op (ev_var rfl) (ev_var rfl) (rv_ixL (sq_of (g4 _ _ ha)) (atI_nat ?_))
          unfold szs nV
          rw [List.getElem?_map, List.getElem?_map, List.getElem?_range k1]
          show some (V.int ((szB p (bs.take kk) : Nat) : Int)) = _
          rw [k2]
      refine s_app (v := .int ((szB p (bs.take i) : Nat) : Int)) ha (ev_var rfl) (ev_is (ev_op ev_c (ev_sumN hlc) rv_I0) (by rw [sum_repI, hsum]; congr 1)) (by simp [szs]; omega) fun G2 g2 => ?_
      refine ⟨_, _, rfl, (e.trans g2).mut n2, ?_⟩
      rw [upd_same]
      unfold szs
      rw [List.range_succ, List.map_append, nV_app]
      rfl
    · obtain ⟨u2, u3, rfl, e, ha⟩ := q
      rw [List.length_map, hR.len, rows_len] at ha
      exact s_ret (ev_var rfl) fun G1 g1 => k pa G1 n2 (e.trans g1) (g1 _ _ ha)
end
end K87
-- B3
namespace K87
open PySem PySem.Spec PyProof.Rows L2 Evl KEv TL KDd KSq KSame KTxt KNew KRvT KD
/-! _law_small, _law_built -/
section
variable {P : Program} {w : World} {K : PySem.W.Frag} {mg : Str → Option Value} {base : Heap} {σ : L2.St} {H B : Hp} {C CS a sg d : Addr} {te ta tb tc : TE} {t : TA} {c : Ce} {tx : List (Key × V)} {E : XK} {D : Ends} {tz : TS} {p : Par} {ps : List Pth}
theorem s_dropR {R : V → Hp → Prop} (h : EvR te σ H R) (k : ∀ v H1, Ex H H1 → R v H1 → D.nx σ H1) : tDrop te D σ H := h H (Ex.refl H) _ k
theorem s_dropP {F : List Addr} {R : V → Hp → Prop} (h : EvP F te σ H R) (k : ∀ v H1, ExB F H H1 → R v H1 → D.nx σ H1) : tDrop te D σ H := h H (Ex.refl H) _ k
theorem era_U1 {xs : List V} (h : EvU te σ H xs) : EvRA (tCons te tNil) σ H fun vs G => ∃ q, vs = [.ref q] ∧ G q = some (.tup xs) := fun H1 e Q q => h H1 e _ fun p H2 hp e2 h2 => q [.ref p] H2 e2 ⟨p, rfl, h2⟩
theorem er_lstU {xs : List V} (h : EvU te σ H xs) : EvR (tLst (tCons te tNil)) σ H fun v G => ∃ q pr, v = .ref pr ∧ H pr = none ∧ G pr = some (.lst [.ref q]) ∧ G q = some (.tup xs) := fun H1 e Q q =>
  (era_U1 h) H1 e _ fun vs H2 e2 hvs => by
    obtain ⟨r, rfl, hr⟩ := hvs
    exact ⟨sz_of (by simp), fun pr npr => q _ _ (e2.trans (Ex.new npr)) ⟨r, pr, rfl, fresh_back (e.trans e2) npr, upd_same, by rw [upd_ne (fun z => by rw [z, npr] at hr; cases hr)]; exact hr⟩⟩
/-- a list of the known heap grows by a new tuple -/
theorem Sd.grow {H' : Hp} {l q : Addr} {xs ys zs : List V} (s : Sd B d H) (hl : B l = some (.lst xs)) (nq : H q = none) (x : ExB [l] H H') (h1 : H' l = some (.lst ys)) (h2 : H' q = some (.tup zs)) : Sd (L2.upd (L2.upd B q (.tup zs)) l (.lst ys)) d H' := by
  have dl : d ≠ l := fun z => by have := s.no; rw [z, hl] at this; cases this
  have dq : q ≠ d := s.ne nq
  have ql : q ≠ l := fun z => by rw [z, s.ex _ _ hl] at nq; cases nq
  refine ⟨fun b o hb => ?_, by rw [upd_ne dl, upd_ne (Ne.symm dq)]; exact s.no, ?_⟩
  · by_cases z : b = l
    · rw [z, upd_same] at hb
      rw [z, h1, hb]
    · rw [upd_ne z] at hb
      by_cases z2 : b = q
      · rw [z2, upd_same] at hb
        rw [z2, h2, hb]
      · rw [upd_ne z2] at hb
        exact x b o (fun y => z (List.mem_singleton.mp y)) (s.ex _ _ hb)
  · obtain ⟨ns, g, e⟩ := s.dr
    exact ⟨ns, g, x d _ (fun y => dl (List.mem_singleton.mp y)) e⟩
/-- _law_made on a path's rows -/
theorem ep_madeR (hp : ParOk p) {l : Addr} {ads : List Addr} {bs : Pth} {b : Bool} (hl : H l = some (.lst (ads.map V.ref))) (hR : RowsT H ads (rowsOf p bs)) (hz : bs.length ≤ 10000) (h1 : Ev ta σ H (.ref l)) (h2 : Ev tb σ H (.str (p.wd b))) (h3 : EvL tc σ H (nV (List.replicate (p.a1 b) bs.length))) :
    ∀ Q : VK, (∀ q H', H q = none → ExB [l] H H' → H' l = some (.lst ((ads ++ [q]).map V.ref)) → H' q = some (.tup (rowV (p.wd b, List.replicate (p.a1 b) bs.length))) → RowsT H' (ads ++ [q]) (rowsOf p (bs ++ [b])) → Q (.int ((bs.length + 1 : Nat) : Int)) H') → tCall spMadeR [] E (tCons ta (tCons tb (tCons tc tNil))) σ H Q := fun Q k =>
  (era3L h1 h2 h3) H (Ex.refl H) _ fun vs H1 e1 hvs => by
    obtain ⟨lp, rfl, hlp⟩ := hvs
    have hb : PyData.strOk (p.wd b) = true := by cases b <;> first | exact hp.s1 | exact hp.s2
    have haw := hp.aw b
    refine ⟨l, lp, p.wd b, ads, rowsOf p bs, List.replicate (p.a1 b) bs.length, rfl, e1 _ _ hl, hR.mono e1, hlp, rows_fresh hp haw.1 (Nat.le_refl _), fun r hr => rows_str hp hr, hb, by rw [rows_len]; omega, by simp; omega, fun q H2 nq x2 hl2 hq2 => ?_⟩
    have := k q H2 (fresh_back e1 nq) (fun b o hb ho => x2 b o hb (e1 _ _ ho)) hl2 hq2 (by
      rw [rows_snoc]
      have hRn : RowsT H2 ads (rowsOf p bs) := ⟨hR.len, fun i q' r z3 z4 => by
        have := (hR.mono e1).at_ i q' r z3 z4
        exact x2 _ _ (fun z => by rw [List.mem_singleton.mp z, e1 _ _ hl] at this; cases this) this⟩
      exact hRn.snoc hq2)
    rw [rows_len]
    exact this
abbrev spSmall (p : Par) : Sp := spGenF (fun rest _ => rest = [.str p.lt, .str p.one, .str p.many, .int (p.ar : Int)]) (fun _ Bh v G => ∃ q ads, ∃ bs : Pth, v = .ref q ∧ Bh q = none ∧ G q = some (.lst (ads.map V.ref)) ∧ RowsT G ads (rowsOf p bs) ∧ bs.length ≤ 3)
theorem scSm : FnScope ["draws", "letter", "one", "many", "arity", "rows", "k", "j"] ["draws", "letter", "one", "many", "arity"] (defScope (topS 34)) := ⟨rfl, rfl, rfl, by decide +kernel, rfl, by decide +kernel, by decide +kernel⟩
theorem ok_small (hp : ParOk p) {f ft fm : Addr} {fd fdt fdm : FuncData} (D : DefAt K mg 34 "_law_small" ["draws", "letter", "one", "many", "arity"] f fd) (T : TakeAt P w K mg base ft fdt) (MD : GenAt P w K mg base 1 "_law_made" ["rows", "word", "places"] spMadeR fm fdm) (N : Nm mg) (M : NmS mg) : FnOk P w K mg base CX0 2 f fd ["draws", "letter", "one", "many", "arity"] (spSmall p) := by
  refine D.F.ok scSm (fun vs H Q E h => ?_) (fun cdv A outer s H vs Q E hr h => ?_)
  · obtain ⟨d, rest, rfl, _, rfl, _⟩ := h
    rfl
  · obtain ⟨d, rest, rfl, hd, rfl, k⟩ := h
    have s0 := Sd.of hd
    refine ⟨_, (pss_cons (ps_asg (pe_lst (pa_cons (pe_tup (pa_cons (pv 1) pa_nil)) pa_nil)) (pg_name (i := 5) scSm.nd rfl (.inr rfl))) (pss_cons (ps_for PassesOwn.never rfl (pi_range1 (by rfl) M.range (pa_cons (pe_call T.F (hr.mono (by decide)) (by rfl) T.g T.kp T.b .nil pass0 (pa_cons (pv 0) (pa_cons pe_int pa_nil))) pa_nil)) (pg_name (i := 6) scSm.nd rfl (.inl rfl)) (pss_one (ps_if (pt_cmpR op_eq (pe_call T.F (hr.mono (by decide)) (by rfl) T.g T.kp T.b .nil pass0 (pa_cons (pv 0) (pa_cons pe_int pa_nil))) pe_int (nomark _)) (pss_one (ps_expr (pe_call MD.F (hr.mono (by decide)) (by rfl) MD.g MD.kp MD.b .nil pass0 (pa_cons (pv 5) (pa_cons (pv 2) (pa_cons (pe_lst (pa_cons (pe_op op_sub (pe_callB (r := rLenS K) call_len_seq (by rfl) N.len PySem.boot_len (pa_cons (pv 5) pa_nil)) pe_int) pa_nil)) pa_nil)))))) (pss_one (ps_expr (pe_call MD.F (hr.mono (by decide)) (by rfl) MD.g MD.kp MD.b .nil pass0 (pa_cons (pv 5) (pa_cons (pv 3) (pa_cons (pe_lc (own := [("j", 7)]) (g := gName 7) rfl scSm.nd (pi_range1 (by rfl) M.range (pa_cons (pv 4) pa_nil)) (blkOk_by (own := [("j", 7)]) (N := ["draws", "letter", "one", "many", "arity", "rows", "k", "j"]) (sc := defScope (topS 34)) (by decide +kernel)) (fun _ _ _ _ _ => pg_name (i := 7) scSm.nd rfl (.inl rfl) (hf := .inr rfl)) (fun _ _ _ _ _ => pts_nil) (fun _ _ _ _ _ => (pe_op op_sub (pe_callB (r := rLenS K) call_len_seq (by rfl) N.len PySem.boot_len (pa_cons (pv 5) pa_nil)) pe_int))) pa_nil))))))))) (pss_one (ps_ret (pv 5))))), ?_⟩
    -- rows = [(letter,)]
    refine q_asgR (R := fun v G => ∃ q pr, v = .ref pr ∧ H pr = none ∧ G pr = some (.lst [.ref q]) ∧ G q = some (.tup (rowV (p.lt, [])))) (er_lstU (eu_tup (vs := [.str p.lt]) (ea_cons (ev_var rfl) ea_nil) (by simp))) fun v H1 e1 hv => ?_
    obtain ⟨q, pr, rfl, npr, hpr, hq⟩ := hv
    have nb : (hide H d) pr = none := fresh_back hide_ex npr
    have s1' := s0.mono e1
    have prd : pr ≠ d := s0.ne npr
    have qd : q ≠ d := fun z => by
      obtain ⟨xs, _, hx⟩ := s1'.dr
      rw [z, hx] at hq
      cases hq
    have s1 : Sd (L2.upd (L2.upd (hide H d) q (.tup (rowV (p.lt, [])))) pr (.lst [.ref q])) d H1 := (s1'.known qd hq).known prd hpr
    have hqn : q ≠ pr := fun z => by rw [z, hpr] at hq; cases hq
    have hx0 : Ex (hide H d) (L2.upd (L2.upd (hide H d) q (.tup (rowV (p.lt, [])))) pr (.lst [.ref q])) := fun b o hb => by
      rw [upd_ne (fun z => by rw [z, nb] at hb; cases hb)]
      by_cases z : b = q
      · rw [z, upd_same]
        have := e1 _ _ (hide_ex _ _ hb)
        rw [z, hq] at this
        exact this
      · rw [upd_ne z]
        exact hb
    refine gq_range (B := L2.upd (L2.upd (hide H d) q (.tup (rowV (p.lt, [])))) pr (.lst [.ref q])) (d := d) (m := 3) (EvG.sd (eg_takeN (m := 4) (ev_var rfl) ev_c (by decide)) fun v B' ⟨n, hn, hn2⟩ => ⟨n, hn, by omega⟩) s1 (by decide) (fun i σ' H' => ∃ (B2 : Hp) (ads : List Addr) (bs : Pth) (u6 u7 : Option V), σ' = [some (.ref d), some (.str p.lt), some (.str p.one), some (.str p.many), some (.int (p.ar : Int)), some (.ref pr), u6, u7] ∧ Ex (hide H d) B2 ∧ Sd B2 d H' ∧ B2 pr = some (.lst (ads.map V.ref)) ∧ RowsT B2 ads (rowsOf p bs) ∧ bs.length = i)
      (fun B1 H2 e2 s2 => ⟨B1, [q], [], none, none, rfl, hx0.trans e2, s2, e2 _ _ upd_same, ⟨rfl, fun i q' r z1 z2 => ?_⟩, rfl⟩) (fun i σ' H' hi r => ?_) (fun n σ' H' hn r => ?_)
    · cases i with
      | zero =>
        have z1 : q = q' := Option.some.inj z1
        have z2 : (p.lt, []) = r := Option.some.inj z2
        rw [← z1, ← z2]
        exact e2 _ _ (by rw [upd_ne hqn, upd_same])
      | succ i => cases z1
    · obtain ⟨B2, ads, bs, u6, u7, rfl, e2, s2, hpr2, hR2, hlb⟩ := r
      show tIfS _ _ _ _ [some (.ref d), some (.str p.lt), some (.str p.one), some (.str p.many), some (.int (p.ar : Int)), some (.ref pr), some (.int (i : Int)), u7] H'
      have fin : ∀ {b : Bool} {B3 H3 : Hp} {tl : TE} {D : Ends}, Ex B2 B3 → Sd B3 d H3 → Ev (tVar (if b then 3 else 2)) [some (.ref d), some (.str p.lt), some (.str p.one), some (.str p.many), some (.int (p.ar : Int)), some (.ref pr), some (.int (i : Int)), u7] H3 (.str (p.wd b)) → EvL tl [some (.ref d), some (.str p.lt), some (.str p.one), some (.str p.many), some (.int (p.ar : Int)), some (.ref pr), some (.int (i : Int)), u7] H3 (nV (List.replicate (p.a1 b) bs.length)) → D.nx = (fun σ' H' => ∃ (B2 : Hp) (ads : List Addr) (bs : Pth) (u6 u7 : Option V), σ' = [some (.ref d), some (.str p.lt), some (.str p.one), some (.str p.many), some (.int (p.ar : Int)), some (.ref pr), u6, u7] ∧ Ex (hide H d) B2 ∧ Sd B2 d H' ∧ B2 pr = some (.lst (ads.map V.ref)) ∧ RowsT B2 ads (rowsOf p bs) ∧ bs.length = i + 1) →
          tDrop (tCall spMadeR [] E0 (tCons (tVar 5) (tCons (tVar (if b then 3 else 2)) (tCons tl tNil)))) D [some (.ref d), some (.str p.lt), some (.str p.one), some (.str p.many), some (.int (p.ar : Int)), some (.ref pr), some (.int (i : Int)), u7] H3 := by
        intro b B3 H3 tl D e3 s3 hw hl hD
        have hpr3 := e3 _ _ hpr2
        refine ep_madeR hp (s3.ex _ _ hpr3) ((hR2.mono e3).mono s3.ex) (by omega) (ev_var rfl) hw hl _ fun q2 H4 nq x4 hl4 hq4 hR4 => ?_
        rw [hD]
        have nq3 : B3 q2 = none := fresh_back s3.ex nq
        have s4 := Sd.grow s3 hpr3 nq x4 hl4 hq4
        have q2pr : q2 ≠ pr := fun z => by rw [z, hpr3] at nq3; cases nq3
        refine ⟨_, ads ++ [q2], bs ++ [b], _, _, rfl, ?_, s4, upd_same, ⟨by rw [hR4.len], fun j q' r z1 z2 => ?_⟩, by rw [List.length_append, hlb]; rfl⟩
        · intro b' o hb
          rw [upd_ne (fun z => by rw [z, nb] at hb; cases hb), upd_ne (fun z => by rw [z, fresh_back e2 (fresh_back e3 nq3)] at hb; cases hb)]
          exact e3 _ _ (e2 _ _ hb)
        · rw [rows_snoc] at z2
          by_cases hj : j < ads.length
          · rw [List.getElem?_append_left hj] at z1
            rw [List.getElem?_append_left (by rw [← hR2.len]; exact hj)] at z2
            have := e3 _ _ (hR2.at_ j q' r z1 z2)
            rw [upd_ne (fun z => by rw [z, hpr3] at this; cases this), upd_ne (fun z => by rw [z, nq3] at this; cases this)]
            exact this
          · have hj2 := (List.getElem?_eq_some_iff.mp z1).1
            rw [List.length_append, List.length_singleton] at hj2
            have ej : j = ads.length := by omega
            rw [ej, List.getElem?_append_right (Nat.le_refl _)] at z1
            rw [ej, hR2.len, List.getElem?_append_right (Nat.le_refl _)] at z2
            simp at z1 z2
            rw [← z1, ← z2, upd_ne q2pr, upd_same]
      have hlen : ∀ {G : Hp} {σ : L2.St} {ads : List Addr}, ads.length = bs.length + 1 → G pr = some (.lst (ads.map V.ref)) → σ[5]? = some (some (.ref pr)) → Ev (tOp (rI0 fun i j => .int (i - j)) (tCB (rLenS K) (tCons (tVar 5) tNil)) (tC (.int 1))) σ G (.int (bs.length : Int)) := fun hal hG h5 => ev_is (ev_op (ev_len (ev_var h5) (sq_of hG)) ev_c rv_I0) (by rw [List.length_map, hal]; congr 1; omega)
      have hal : ads.length = bs.length + 1 := by rw [hR2.len, rows_len]
      refine g_if (B := B2) (d := d) (Rt := fun _ _ => True) (egt_test (R := fun v _ => ∃ b, v = .bl b) (eg_opW (Rb := fun v _ => ∃ n : Nat, v = .int (n : Int) ∧ (n : Int) < 2) (eg_takeN (m := 2) (ev_var rfl) ev_c (by decide)) (fun _ _ _ _ => ev_c) fun u B3 _ hu => ?_) fun v B3 _ hv => ?_) s2 (fun B3 H3 e3 s3 _ => ?_) (fun B3 H3 e3 s3 _ => ?_)
      · obtain ⟨n, rfl, _⟩ := hu
        exact ⟨_, rv_eq rfl, _, rfl⟩
      · obtain ⟨b, rfl⟩ := hv
        exact ⟨b, rfl, trivial⟩
      · exact fin (b := false) e3 s3 (ev_var rfl) (el_lst (ea_cons (hlen hal (s3.ex _ _ (e3 _ _ hpr2)) rfl) ea_nil) (by show 1 ≤ 100000; decide)) rfl
      · refine fin (b := true) e3 s3 (ev_var rfl) ?_ rfl
        have h0 := el_lcRM (te := tOp (rI0 fun i j => .int (i - j)) (tCB (rLenS K) (tCons (tVar 5) tNil)) (tC (.int 1))) (ta := tCons (tVar 4) tNil) (j := 7) (vs := [7]) (σ := [some (.ref d), some (.str p.lt), some (.str p.one), some (.str p.many), some (.int (p.ar : Int)), some (.ref pr), some (.int (i : Int)), u7]) (H := H3) (List.replicate p.ar ()) (fun _ => V.int (bs.length : Int)) (ea_cons (ev_is (ev_var rfl) (by rw [List.length_replicate])) ea_nil) (by have := hp.ar4; simp; omega) (fun _ => rfl) (fun m r G g _ => hlen hal (g _ _ (s3.ex _ _ (e3 _ _ hpr2))) rfl)
        rw [List.map_replicate] at h0
        rw [nV_rep]
        exact h0
    · obtain ⟨B2, ads, bs, u6, u7, rfl, e2, s2, hpr2, hR2, hlb⟩ := r
      exact s_ret (ev_var rfl) fun H3 e3 => k _ B2 H3 e2 (s2.mono e3) ⟨pr, ads, bs, rfl, nb, hpr2, hR2, by omega⟩
end
end K87
-- B4
namespace K87
open PySem PySem.Spec PyProof.Rows L2 Evl KEv TL KDd KSq KSame KTxt KNew KRvT KD
/-! the store's calls on paths; _law_built -/
/-- a store over the law's signature -/
structure PSt (p : Par) (C CS : Addr) (H : Hp) (a sg : Addr) (c : Ce) (ps : List Pth) : Prop where
  st : StoreAt C H a sg c [] (stP p ps)
  ok : PathsOk ps
  sig : ∃ pc psA pa pr sgn, SigAt CS H sg (sortsP p) (signsP p) pc psA pa pr sgn
theorem PSt.mono {p : Par} {C CS : Addr} {H H' : Hp} {a sg : Addr} {c : Ce} {ps : List Pth} (h : PSt p C CS H a sg c ps) (e : Ex H H') : PSt p C CS H' a sg c ps := by
  obtain ⟨pc, psA, pa, pr, sgn, hG⟩ := h.sig
  exact ⟨h.st.mono e, h.ok, pc, psA, pa, pr, sgn, hG.mono e⟩
theorem PSt.next {p : Par} {C CS : Addr} {H H' : Hp} {a sg : Addr} {c : Ce} {ps ps' : List Pth} (h : PSt p C CS H a sg c ps) (x : ExB (cells c) H H') (hS : StoreAt C H' a sg c [] (stP p ps')) (ho : PathsOk ps') : PSt p C CS H' a sg c ps' := by
  obtain ⟨pc, psA, pa, pr, sgn, hG⟩ := h.sig
  exact ⟨hS, ho, pc, psA, pa, pr, sgn, hG.keep h.st x⟩
section
variable {P : Program} {w : World} {K : PySem.W.Frag} {mg : Str → Option Value} {base : Heap} {σ : L2.St} {H B : Hp} {C CS a sg d : Addr} {te ta tb tc : TE} {t : TA} {c : Ce} {tx : List (Key × V)} {E : XK} {D : Ends} {tz : TS} {p : Par} {ps : List Pth}
theorem ep_letter (hp : ParOk p) (hP : PSt p C CS H a sg c ps) (hl : ps.length ≤ 45000) (ha : Ev ta σ H (.ref a)) (hb : Ev tb σ H (.str p.lt)) : EvP (cells c) (tMeth C "letter" (spLetter C CS) [] E ta (tCons tb tNil)) σ H fun v G => v = .int ((addP ps []).idxOf [] : Int) ∧ StoreAt C G a sg c [] (stP p (addP ps [])) := fun H1 e Q q =>
  ha H1 e _ fun H2 e2 => by
    obtain ⟨dx, fs, o1, o2⟩ := hP.st.no
    obtain ⟨pc, psA, pa, pr, sgn, hG⟩ := hP.sig
    refine ⟨a, dx, fs, rfl, e2 _ _ (e _ _ o1), o2 _ (by decide), (ea_cons hb ea_nil) H2 (e.trans e2) _ fun H3 e3 => ?_⟩
    have e13 := (e.trans e2).trans e3
    refine ⟨a, sg, c, [], stP p ps, p.lt, p.srt, [p.lt], sortsP p, signsP p, pc, psA, pa, pr, sgn, rfl, hP.st.mono e13, hG.mono e13, hp.lb, ws_let hp, wd_path hp (by omega), by simp, fun H4 x4 h4 => ?_⟩
    have hput := put_path hp hP.ok (bs := []) (fun ds b z => by have := congrArg List.length z; simp at this)
    rw [show wordOf p [] = p.lt from rfl, show partsOf p ps [] = [] from rfl] at hput
    rw [hput] at h4 ⊢
    exact q _ H4 (fun b o hb ho => x4 b o hb ((e2.trans e3) _ _ ho)) ⟨rfl, h4⟩
theorem ep_make (hp : ParOk p) (hP : PSt p C CS H a sg c ps) (hl : ps.length ≤ 45000) {cs : Pth} {b : Bool} (hc : cs ∈ ps) (ha : Ev ta σ H (.ref a)) (hb : Ev tb σ H (.str (p.wd b))) (hv : EvL tc σ H (nV (List.replicate (p.a1 b) (ps.idxOf cs)))) : EvP (cells c) (tMeth C "make" (spMake C CS) [] E ta (tCons tb (tCons tc tNil))) σ H fun v G => v = .int ((addP ps (cs ++ [b])).idxOf (cs ++ [b]) : Int) ∧ StoreAt C G a sg c [] (stP p (addP ps (cs ++ [b]))) := fun H1 e Q q =>
  ha H1 e _ fun H2 e2 => by
    obtain ⟨dx, fs, o1, o2⟩ := hP.st.no
    obtain ⟨pc, psA, pa, pr, sgn, hG⟩ := hP.sig
    have haw := hp.aw b
    refine ⟨a, dx, fs, rfl, e2 _ _ (e _ _ o1), o2 _ (by decide), hb H2 (e.trans e2) _ fun H3 e3 => hv H3 ((e.trans e2).trans e3) _ fun l H4 nl e4 hl4 => ?_⟩
    have e14 := ((e.trans e2).trans e3).trans e4
    refine ⟨a, sg, l, c, [], stP p ps, (p.wd b, List.replicate (p.a1 b) p.srt, p.srt), List.replicate (p.a1 b) (ps.idxOf cs), [p.lt], sortsP p, signsP p, pc, psA, pa, pr, sgn, rfl, hP.st.mono e14, hG.mono e14, hl4, sg_wd hp b, wd_path hp (by omega), by simp, by simp; omega, fun i n u hi hu => ?_, (hp.lw b).1, (hp.lw b).2, hp.cw b, fun H5 x5 h5 => ?_⟩
    · have e1 := List.eq_of_mem_replicate (List.mem_of_getElem? hi)
      have e2 := List.eq_of_mem_replicate (List.mem_of_getElem? hu)
      exact ⟨_, by rw [e1]; exact st_get hc, by rw [e2]; rfl⟩
    · have hput := put_path hp hP.ok (bs := cs ++ [b]) (fun ds b' z => by rw [← List.append_inj_left' z rfl]; exact hc)
      rw [wordOf_snoc, partsOf_snoc] at hput
      have hput' : putS (stP p ps) (p.wd b, List.replicate (p.a1 b) p.srt, p.srt).1 (List.replicate (p.a1 b) (ps.idxOf cs)) (p.wd b, List.replicate (p.a1 b) p.srt, p.srt).2.2 = _ := hput
      rw [hput'] at h5 ⊢
      exact q _ H5 (fun b o hb ho => x5 b o hb (((e2.trans e3).trans e4) _ _ ho)) ⟨rfl, h5⟩
def spBuilt (p : Par) (C CS : Addr) : Sp := fun vs H Q _ => ∃ (a sg lr : Addr) (c : Ce) (ps : List Pth) (ads : List Addr) (bs : Pth), vs = [.ref a, .ref lr] ∧ PSt p C CS H a sg c ps ∧ H lr = some (.lst (ads.map V.ref)) ∧ RowsT H ads (rowsOf p bs) ∧ lr ∉ cells c ∧ bs.length ≤ 10000 ∧ ps.length + bs.length + 1 ≤ 40000 ∧
  ∀ ps' H', More ps ps' → bs ∈ ps' → ps'.length ≤ ps.length + bs.length + 1 → ExB (cells c) H H' → StoreAt C H' a sg c [] (stP p ps') → Q (.int (ps'.idxOf bs : Int)) H'
theorem scBu : FnScope ["terms", "rows", "numbers", "row", "k"] ["terms", "rows"] (defScope (topS 35)) := ⟨rfl, rfl, rfl, by decide +kernel, rfl, by decide +kernel, by decide +kernel⟩
theorem ok_built (hp : ParOk p) {f fl fm : Addr} {fd fdl fdm : FuncData} {dl dm : List Value} (D : DefAt K mg 35 "_law_built" ["terms", "rows"] f fd) (S : TermC K C) (LT : MethAt P w K mg base CX0 7 C "letter" ["self", "text"] [] (spLetter C CS) fl fdl dl) (MA : MethAt P w K mg base CX0 7 C "make" ["self", "sign", "parts"] [] (spMake C CS) fm fdm dm) (N : Nm mg) : FnOk P w K mg base CX0 8 f fd ["terms", "rows"] (spBuilt p C CS) := by
  refine D.F.ok scBu (fun vs H Q E h => ?_) (fun cdv A outer s H vs Q E hr h => ?_)
  · obtain ⟨a, sg, lr, c, ps, ads, bs, rfl, _⟩ := h
    rfl
  · obtain ⟨a, sg, lr, c, ps, ads, bs, rfl, hP, h1, hR, nlr, hz, hz2, k⟩ := h
    refine ⟨_, (pss_cons (ps_asg (pe_lst pa_nil) (pg_name (i := 2) scBu.nd rfl (.inr rfl))) (pss_cons (ps_for PassesOwn.never rfl (pi_list (pv 1)) (pg_name (i := 3) scBu.nd rfl (.inl rfl)) (pss_one (ps_if (pt_cmpR op_eq (pe_callB (r := rLenS K) call_len_seq (by rfl) N.len PySem.boot_len (pa_cons (pv 3) pa_nil)) pe_int (nomark _)) (pss_one (ps_expr (pe_bm PySem.F.plainAttrs_list PySem.F.slot_list_append PySem.F.type_list_append mt_append (pv 2) (pa_cons (pe_meth (pv 0) S.cl LT.m LT.F (hr.mono (by decide)) LT.b LT.v pass0 (pa_cons (pe_ix (r := rIxT K) ix_tup (pv 3) pe_int (fun _ _ => rfl)) pa_nil)) pa_nil)))) (pss_one (ps_expr (pe_bm PySem.F.plainAttrs_list PySem.F.slot_list_append PySem.F.type_list_append mt_append (pv 2) (pa_cons (pe_meth (pv 0) S.cl MA.m MA.F (hr.mono (by decide)) MA.b MA.v pass0 (pa_cons (pe_ix (r := rIxT K) ix_tup (pv 3) pe_int (fun _ _ => rfl)) (pa_cons (pe_lc (own := [("k", 4)]) (g := gName 4) rfl scBu.nd (pi_seq (pe_slice (r := rSlT K) sl_tup (pv 3) (po_some pe_int) po_none)) (blkOk_by (own := [("k", 4)]) (N := ["terms", "rows", "numbers", "row", "k"]) (sc := defScope (topS 35)) (by decide +kernel)) (fun _ _ _ _ _ => pg_name (i := 4) scBu.nd rfl (.inl rfl) (hf := .inr rfl)) (fun _ _ _ _ _ => pts_nil) (fun _ _ _ _ _ => (pe_ix (r := rIxL K) ix_list (pv 2) (pv 4) (fun _ _ => rfl)))) pa_nil))) pa_nil))))))) (pss_one (ps_ret (pe_ix (r := rIxL K) ix_list (pv 2) (pe_un un_neg pe_int) (fun _ _ => rfl)))))), ?_⟩
    refine q_asgL (el_lst ea_nil (by decide)) fun pn H1 n1 e1 hn1 => ?_
    have xn : H pn = none := n1
    have npn : pn ∉ cells c := fresh_nin hP.st n1
    refine q_forL (xs := ads.map V.ref) (ev_var rfl) (sq_of (e1 _ _ h1)) (fun i σ' H' => ∃ (ps' : List Pth) (u3 u4 : Option V), σ' = [some (.ref a), some (.ref lr), some (.ref pn), u3, u4] ∧ More ps ps' ∧ (∀ j, j < i → bs.take j ∈ ps') ∧ ps'.length ≤ ps.length + i ∧ ExB (cells c) H H' ∧ PSt p C CS H' a sg c ps' ∧ H' pn = some (.lst (nV ((List.range i).map fun j => ps'.idxOf (bs.take j))))) (fun H2 e2 => ⟨ps, none, none, rfl, More.refl hP.ok, fun j hj => absurd hj (Nat.not_lt_zero j), Nat.le_refl _, ExB.of (e1.trans e2), hP.mono (e1.trans e2), e2 _ _ hn1⟩) (fun i σ' H' _ q => ?_) (fun i v σ' H' hv q => ?_) (fun σ' H' q => ?_)
    · obtain ⟨_, _, _, _, _, _, _, x, _⟩ := q
      exact sq_of (x _ _ nlr h1)
    · obtain ⟨ps', u3, u4, rfl, m, hin, hlen, x, hP', hpn⟩ := q
      rw [List.getElem?_map] at hv
      obtain ⟨q, hq, rfl⟩ := Option.map_eq_some_iff.mp hv
      have hi := (List.getElem?_eq_some_iff.mp hq).1
      rw [hR.len, rows_len] at hi
      show tIfS _ _ _ _ [some (.ref a), some (.ref lr), some (.ref pn), some (.ref q), u4] H'
      -- the end of a turn
      have fin : ∀ {ps2 : List Pth} {G G2 : Hp} {v : V}, More ps' ps2 → bs.take i ∈ ps2 → ps2.length ≤ ps'.length + 1 → ExB (cells c) H' G → StoreAt C G a sg c [] (stP p ps2) → v = .int (ps2.idxOf (bs.take i) : Int) → G2 = L2.upd G pn (.lst (nV ((List.range i).map fun j => ps'.idxOf (bs.take j)) ++ [v])) →
          ∃ (ps' : List Pth) (v3 v4 : Option V), ([some (.ref a), some (.ref lr), some (.ref pn), some (.ref q), u4] : L2.St) = [some (.ref a), some (.ref lr), some (.ref pn), v3, v4] ∧ More ps ps' ∧ (∀ j, j < i + 1 → bs.take j ∈ ps') ∧ ps'.length ≤ ps.length + (i + 1) ∧ ExB (cells c) H G2 ∧ PSt p C CS G2 a sg c ps' ∧ G2 pn = some (.lst (nV ((List.range (i + 1)).map fun j => ps'.idxOf (bs.take j)))) := by
        intro ps2 G G2 v m2 hb2 hl2 xG hSG hv hG2
        have hg : G pn = some (.lst (nV ((List.range i).map fun j => ps'.idxOf (bs.take j)))) := xG _ _ npn hpn
        refine ⟨ps2, _, _, rfl, m.trans m2, fun j hj => ?_, by omega, fun b o hb ho => ?_, ?_, ?_⟩
        · rcases Nat.lt_succ_iff_lt_or_eq.mp hj with hj | rfl
          · exact (m2.sub _ (hin j hj)).1
          · exact hb2
        · rw [hG2, upd_ne (fun z => by rw [z, xn] at ho; cases ho)]
          exact xG _ _ hb (x _ _ hb ho)
        · have h2 := hP'.next xG hSG m2.ok
          obtain ⟨pc, psA, pa, pr, sgn, hGs⟩ := h2.sig
          rw [hG2]
          refine ⟨hSG.updL hg npn, m2.ok, pc, psA, pa, pr, sgn, ?_⟩
          have kk : ∀ {q : Addr} {u : HO}, G q = some u → (∀ xs, u ≠ .lst xs) → (L2.upd G pn (.lst (nV ((List.range i).map fun j => ps'.idxOf (bs.take j)) ++ [v]))) q = some u := fun {q u} hq hu => by
            rw [upd_ne (fun z => by rw [z, hg] at hq; exact hu _ (Option.some.inj hq).symm)]
            exact hq
          obtain ⟨dx, fs, g1, g2⟩ := hGs.no
          obtain ⟨dx', fs', g3, g4⟩ := hGs.at_
          exact ⟨⟨dx', fs', kk g3 (fun _ z => by cases z), g4⟩, ⟨dx, fs, kk g1 (fun _ z => by cases z), g2⟩, kk hGs.pc (fun _ z => by cases z), kk hGs.ps (fun _ z => by cases z), kk hGs.pa (fun _ z => by cases z), kk hGs.pr (fun _ z => by cases z), hGs.es, fun p hp => kk (hGs.tup p hp) (fun _ z => by cases z)⟩
        · rw [hG2, upd_same, List.range_succ, List.map_append, nV_app, hv]
          have : (List.range i).map (fun j => ps2.idxOf (bs.take j)) = (List.range i).map fun j => ps'.idxOf (bs.take j) := List.map_congr_left fun j hj => (m2.sub _ (hin j (List.mem_range.mp hj))).2
          rw [this]
          rfl
      cases i with
      | zero =>
        have hqt := x _ _ (nin_tup hP.st (hR.at_ 0 q (p.lt, []) hq (rows_zero bs))) (hR.at_ 0 q (p.lt, []) hq (rows_zero bs))
        refine s_if (b := true) (et_is (et_test (ev_op (ev_lenT2 (ev_var rfl) hqt) ev_c (rv_eq rfl))) rfl) (fun _ G1 g1 => ?_) (fun z => by cases z)
        refine s_appP (g1 _ _ hpn) (fun _ => ev_var rfl) (fun G2 g2 => ep_letter hp (hP'.mono (g1.trans g2)) (by omega) (ev_var rfl) (ev_op (ev_var rfl) ev_c (rv_ixT (st_of ((g1.trans g2) _ _ hqt)) (atI_nat (j := 0) rfl)))) fun v G2 x2 hv => ?_
        obtain ⟨hv, hS2⟩ := hv
        have hpre : hasPre ps' [] := fun ds b z => by have := congrArg List.length z; simp at this
        exact ⟨_, x2 _ _ npn (g1 _ _ hpn), by simp, fin (More.add hP'.ok hpre) (by rw [List.take_zero]; exact addP_mem.mpr (.inr rfl)) (addP_len _ _) ((ExB.of g1).trans x2) hS2 (by rw [List.take_zero]; exact hv) rfl⟩
      | succ j =>
        obtain ⟨b, hb⟩ : ∃ b, bs[j]? = some b := ⟨_, List.getElem?_eq_getElem (by omega)⟩
        have hqt := x _ _ (nin_tup hP.st (hR.at_ (j + 1) q _ hq (rows_get hb))) (hR.at_ (j + 1) q _ hq (rows_get hb))
        have haw := hp.aw b
        have hlen2 : (rowV (p.wd b, List.replicate (p.a1 b) j)).length = p.a1 b + 1 := by unfold rowV; simp
        refine s_if (b := false) (et_is (et_test (ev_op (ev_lenT2 (ev_var rfl) hqt) ev_c (rv_eq rfl))) (by rw [hlen2]; exact decide_eq_false fun z => by have := V.int.inj z; omega)) (fun z => by cases z) (fun _ G1 g1 => ?_)
        have hc := hin j (Nat.lt_succ_self j)
        refine s_appP (g1 _ _ hpn) (fun _ => ev_var rfl) (fun G2 g2 => ep_make hp (hP'.mono (g1.trans g2)) (by omega) hc (ev_var rfl) (ev_op (ev_var rfl) ev_c (rv_ixT (st_of ((g1.trans g2) _ _ hqt)) (atI_nat (j := 0) rfl))) ?_) fun v G2 x2 hv => ?_
        · have h0 := el_lcUM (K := K) (te := tOp (rIxL K) (tVar 2) (tVar 4)) (j := 4) (vs := [4]) (xs := nV (List.replicate (p.a1 b) j)) (List.replicate (p.a1 b) j) (fun _ => V.int (ps'.idxOf (bs.take j) : Int)) (eu_row1 (K := K) (tt := tVar 3) (σ := [some (.ref a), some (.ref lr), some (.ref pn), some (.ref q), u4]) (ev_var rfl) ((g1.trans g2) _ _ hqt)) (by simp) (by simp; omega) (fun _ => rfl) (fun i x r G4 g4 hx hr => ?_)
          · rw [List.map_replicate] at h0
            rw [nV_rep]
            exact h0
          · have hr2 := List.eq_of_mem_replicate (List.mem_of_getElem? hr)
            rw [List.getElem?_map, hr] at hx
            obtain rfl := Option.some.inj hx
            rw [hr2]
            refine ev_op (ev_var rfl) (ev_var rfl) (rv_ixL (sq_of (g4 _ _ ((g1.trans g2) _ _ hpn))) (atI_nat ?_))
            rw [List.getElem?_map, List.getElem?_map, List.getElem?_range (by omega)]
            rfl
        · obtain ⟨hv, hS2⟩ := hv
          have hpre : hasPre ps' (bs.take j ++ [b]) := fun ds b' z => by rw [← List.append_inj_left' z rfl]; exact hc
          exact ⟨_, x2 _ _ npn (g1 _ _ hpn), by simp; omega, fin (More.add hP'.ok hpre) (by rw [take_snoc hb]; exact addP_mem.mpr (.inr rfl)) (addP_len _ _) ((ExB.of g1).trans x2) hS2 (by rw [take_snoc hb]; exact hv) rfl⟩
    · obtain ⟨ps', u3, u4, rfl, m, hin, hlen, x, hP', hpn⟩ := q
      rw [List.length_map, hR.len, rows_len] at hin hlen hpn
      have hlast : nV ((List.range (bs.length + 1)).map fun j => ps'.idxOf (bs.take j)) = nV ((List.range bs.length).map fun j => ps'.idxOf (bs.take j)) ++ [.int (ps'.idxOf bs : Int)] := by
        rw [List.range_succ, List.map_append, nV_app, List.map_cons, List.take_length]
        rfl
      rw [hlast] at hpn
      have hbm := hin bs.length (Nat.lt_succ_self _)
      rw [List.take_length] at hbm
      exact s_ret (ev_op (ev_var rfl) (ev_un ev_c ru_neg) (rv_ixL (sq_of hpn) atI_last)) fun G1 g1 => k ps' G1 m hbm hlen (x.ex g1) (hP'.st.mono g1)
end
end K87
-- B5
namespace K87
open PySem PySem.Spec PyProof.Rows L2 L2H Evl KEv TL KDd KSq KSame KTxt KHot KSup KNew KRvT KD KTry
/-! _law_tells -/
def rCountS : V → List V → Hp → VK → Prop := fun x xs H Q => ∃ a b, x = .str a ∧ xs = [.str b] ∧ Q (.int (Txt.count a b)) H
section
variable {X : Cx} {o e : Expr} {to te : TE} {apos pos : Pos}
theorem pe_countS (ho : PE X o to) (he : PE X e te) (hs : starEach [e] X.env = [(false, eval e X.env)] := by rfl) (hbase : attributeBase o "count" X.env (eval o X.env) = eval o X.env := by rfl) (hline : (apos.endLine == pos.line) = true := by rfl) :
    PE X (.Call (.Attribute o "count" apos) [e] [] pos) (tM1 rCountS to te) := pe_m1 PySem.F.slot_str_count PySem.F.type_str_count mt_count ho he hs hbase hline
end
theorem pe_xaK {X : Cx} {K : PySem.W.Frag} {e : Expr} {te : TE} {pos : Pos} {n : Str} (hK : X.K = K) (he : PE X e te) (hb : attributeBase e n X.env (eval e X.env) = eval e X.env := by rfl) : PE X (.Attribute e n pos) (tXa K n te) := by
  subst hK
  exact pe_xa he hb
/-- a text that ends with y holds it -/
theorem count_end {x y : Str} {A : List Nat} (hy : tl y ≠ []) (h : tl x = A ++ tl y) : 1 ≤ Txt.count x y := by
  have hat : StrLaws.At x y x.length A.length := (at_iff hy A.length).mpr (by
    rw [h, List.drop_left]
    show ((tl y).take (tl y).length == tl y) = true
    rw [List.take_length]
    simp)
  obtain ⟨f, g, hn⟩ := StrLaws.occ_tight x y (len1 hy)
  unfold Txt.count
  cases ho : Builtin.Str.occurrences x y 0 x.length (x.length + 1) with
  | nil =>
    rw [ho] at g
    have hf : f = 0 := g
    exact absurd hat (hn _ (by omega))
  | cons i r =>
    rw [List.length_cons]
    omega
theorem join_last (s y : Str) : ∀ ws : List Str, ∃ A, tl (Str.join s (ws ++ [y])) = A ++ tl y
  | [] => ⟨[], rfl⟩
  | [w] => ⟨tl w ++ tl s, by
    show tl (w ++ s ++ y) = _
    rw [tl_append, tl_append]⟩
  | w :: v :: r => by
    obtain ⟨A, hA⟩ := join_last s y (v :: r)
    refine ⟨tl w ++ tl s ++ A, ?_⟩
    show tl (w ++ s ++ Str.join s ((v :: r) ++ [y])) = _
    rw [tl_append, tl_append, hA, List.append_assoc, List.append_assoc, List.append_assoc]
theorem wl_last {p : Par} (hp : ParOk p) (bs : Pth) : ∃ ws, wl p bs = ws ++ [p.lt] := by
  refine path_ind (M := fun bs => ∃ ws, wl p bs = ws ++ [p.lt]) ⟨[], rfl⟩ (fun cs b ih => ?_) bs
  obtain ⟨ws, hws⟩ := ih
  obtain ⟨n, hn⟩ : ∃ n, p.a1 b = n + 1 := ⟨p.a1 b - 1, by have := (hp.aw b).1; omega⟩
  refine ⟨p.wd b :: (List.replicate n (wl p cs)).flatten ++ ws, ?_⟩
  rw [wl_snoc, hn, rep_snoc, List.flatten_append, hws]
  simp
theorem wl_mem {p : Par} {bs : Pth} {x : Str} (h : x ∈ wl p bs) : x = p.lt ∨ ∃ b, x = p.wd b := by
  revert h
  refine path_ind (M := fun bs => x ∈ wl p bs → x = p.lt ∨ ∃ b, x = p.wd b) (fun h => .inl (List.mem_singleton.mp h)) (fun cs b ih h => ?_) bs
  rw [wl_snoc] at h
  rcases List.mem_cons.mp h with h | h
  · exact .inr ⟨b, h⟩
  · obtain ⟨l, hl, hx⟩ := List.mem_flatten.mp h
    rw [List.eq_of_mem_replicate hl] at hx
    exact ih hx
section
variable {P : Program} {w : World} {K : PySem.W.Frag} {mg : Str → Option Value} {base : Heap} {σ : L2.St} {H : Hp} {C CS a sg : Addr} {te ta tb tc to : TE} {t : TA} {c : Ce} {tx : List (Key × V)} {st : List Nd} {E : XK} {D : Ends} {tz : TS} {m : Str} {sp : Sp} {dvs vs : List V} {v : V} {R : V → Hp → Prop} {ec fi : EK → Addr}
theorem ev_methT (hS : StoreAt C H a sg c tx st) (hm : m ∈ tms) (ha : Ev ta σ H (.ref a)) (h : EvA t σ H vs) (k : ∀ H1, Ex H H1 → ∀ Q : VK, RetV v H1 Q → sp (.ref a :: (vs ++ dvs)) H1 Q E) : Ev (tMeth C m sp dvs E ta t) σ H v := fun H1 e Q q =>
  ha H1 e _ fun H2 e2 => by
    obtain ⟨dx, fs, o1, o2⟩ := hS.no
    exact ⟨a, dx, fs, rfl, e2 _ _ (e _ _ o1), o2 m hm, h H2 (e.trans e2) _ fun H3 e3 => k H3 ((e.trans e2).trans e3) Q fun H4 e4 => q H4 ((e2.trans e3).trans e4)⟩
theorem er_methT (hS : StoreAt C H a sg c tx st) (hm : m ∈ tms) (ha : Ev ta σ H (.ref a)) (h : EvA t σ H vs) (k : ∀ H1, Ex H H1 → ∀ Q : VK, (∀ v H2, Ex H1 H2 → R v H2 → Q v H2) → sp (.ref a :: (vs ++ dvs)) H1 Q E) : EvR (tMeth C m sp dvs E ta t) σ H R := fun H1 e Q q =>
  ha H1 e _ fun H2 e2 => by
    obtain ⟨dx, fs, o1, o2⟩ := hS.no
    exact ⟨a, dx, fs, rfl, e2 _ _ (e _ _ o1), o2 m hm, h H2 (e.trans e2) _ fun H3 e3 => k H3 ((e.trans e2).trans e3) Q fun v H4 e4 r => q v H4 ((e2.trans e3).trans e4) r⟩
theorem ev_opR {r : R2} {z : V} {Ra : V → Hp → Prop} {Rb : V → V → Hp → Prop} (ha : EvR ta σ H Ra) (hb : ∀ x H1, Ex H H1 → Ra x H1 → EvR tb σ H1 (Rb x)) (hr : ∀ x y H1, Ex H H1 → Rb x y H1 → RV r x y H1 z) : Ev (tOp r ta tb) σ H z := fun H1 e Q q =>
  ha H1 e _ fun x H2 e2 rx => hb x H2 (e.trans e2) rx H2 (Ex.refl H2) _ fun y H3 e3 ry => hr x y H3 ((e.trans e2).trans e3) ry H3 (Ex.refl H3) Q fun H4 e4 => q H4 ((e2.trans e3).trans e4)
theorem er_U {xs : List V} (h : EvU te σ H xs) : EvR te σ H fun v G => ∃ p, v = .ref p ∧ G p = some (.tup xs) := fun H1 e Q q => h H1 e _ fun p H2 _ e2 h2 => q _ H2 e2 ⟨p, rfl, h2⟩
theorem s_asgMethT {Ex' : L2.St → XK} {i : Nat} (hS : StoreAt C H a sg c tx st) (hm : m ∈ tms) (ha : Ev ta σ H (.ref a)) (h : EvA t σ H vs) (k : ∀ H1, Ex H H1 → sp (.ref a :: (vs ++ dvs)) H1 (fun v H2 => D.nx (σ.set i (some v)) H2) (Ex' σ)) : tAsg (tMethS C m sp dvs Ex' ta t) (gName i) D σ H :=
  ha H (Ex.refl H) _ fun H1 e1 => by
    obtain ⟨dx, fs, o1, o2⟩ := hS.no
    exact ⟨a, dx, fs, rfl, e1 _ _ o1, o2 m hm, h H1 e1 _ fun H2 e2 => k H2 (e1.trans e2)⟩
theorem ev_count {x y : Str} (ho : Ev to σ H (.str x)) (he : Ev te σ H (.str y)) : Ev (tM1 rCountS to te) σ H (.int (Txt.count x y)) := fun H1 e Q q =>
  ho H1 e _ fun H2 e2 => ⟨⟨x, rfl⟩, he H2 (e.trans e2) _ fun H3 e3 => ⟨x, y, rfl, rfl, q H3 (e2.trans e3)⟩⟩
/-- two tuples of the same texts are not unlike -/
theorem ne_strs {ss : List Str} (hs : ∀ x ∈ ss, PyData.strOk x = true) (ha : EvR ta σ H fun v G => ∃ p, v = .ref p ∧ G p = some (.tup (ss.map V.str))) (hb : ∀ H1, Ex H H1 → EvU tb σ H1 (ss.map V.str)) : Ev (tOp (rNeD K) ta tb) σ H (.bl false) :=
  ev_opR (Rb := fun x y G => ∃ p q, x = .ref p ∧ y = .ref q ∧ G p = some (.tup (ss.map V.str)) ∧ G q = some (.tup (ss.map V.str))) ha (fun x H1 e1 rx H2 e2 Q q => by
    obtain ⟨p, rfl, hp⟩ := rx
    exact (hb H1 e1) H2 e2 _ fun r H3 _ e3 h3 => q _ H3 e3 ⟨p, r, rfl, rfl, e3 _ _ (e2 _ _ hp), h3⟩) fun x y H1 _ r => by
    obtain ⟨p, q, rfl, rfl, hp, hq⟩ := r
    refine fun H2 e2 Q k => ⟨.tuple (ss.map PyData.str), .tuple (ss.map PyData.str), .tup (st_of (e2 _ _ hp)) (dp_strs ss), .tup (st_of (e2 _ _ hq)) (dp_strs ss), shaped_tup hs, shaped_tup hs, ?_⟩
    have : PyData.eqv (.tuple (ss.map PyData.str)) (.tuple (ss.map PyData.str)) = true := by
      simp only [PyData.eqv]
      rw [eqv_strs]
      simp
    rw [this]
    exact k H2 (Ex.refl H2)
theorem eqv_rows : ∀ rs : List RowN, PyData.eqvAll (rowsD rs) (rowsD rs) = true
  | [] => by simp [rowsD, PyData.eqvAll]
  | r :: rs => by
    have := eqv_rows rs
    unfold rowsD at this ⊢
    rw [List.map_cons]
    simp only [PyData.eqvAll]
    rw [eqv_row, this]
    simp
theorem shaped_trows {rs : List RowN} (h : ∀ r ∈ rs, PyData.strOk r.1 = true) : SeqAt.shaped (.tuple (rowsD rs)) = true := by
  unfold SeqAt.shaped
  have h1 := lay_rows h
  have h2 := depth_rows rs
  rw [Bool.and_eq_true, decide_eq_true_eq]
  exact ⟨by simpa [PyData.canLay0] using h1, by simp only [PyData.depth]; omega⟩
theorem scIn2 : FnScope ["told"] ["told"] (defScope (topS 29)) := ⟨rfl, rfl, rfl, by decide +kernel, rfl, by decide +kernel, by decide +kernel⟩
theorem okT_is_number {f : Addr} {fd : FuncData} (D : DefAt K mg 29 "_law_is_number" ["told"] f fd) (M : NmS mg) : FnT P w K mg base 1 f fd ["told"] spIsNum := by
  refine okT D.F scIn2 (fun vs H Q E h => ?_) (fun cdv A outer s H vs Q E hr hot h => ?_)
  · obtain ⟨n, rfl, _⟩ := h
    rfl
  · obtain ⟨n, rfl, k⟩ := h
    refine ⟨_, (pss_one (ps_ret (pe_and (pe_callB (r := rIsi K) call_isi (by rfl) M.isi (by decide +kernel) (pa_cons (pv 0) (pa_cons (pe_bltn (v := .ty "int") (by rfl) M.int (by decide +kernel) rfl) pa_nil))) (pe_one (pe_not (pe_callB (r := rIsi K) call_isi (by rfl) M.isi (by decide +kernel) (pa_cons (pv 0) (pa_cons (pe_bltn (v := .ty "bool") (by rfl) M.bool (by decide +kernel) rfl) pa_nil)))))))), ?_⟩
    have ty : ∀ H1, Ex H H1 → TyX K H1 (.int n) (.type "int") := fun _ _ => .base (.int n)
    exact s_ret (ev_is (ev_andV (a := true) (ev_isi (ev_var rfl) ty (by decide +kernel)) fun _ => ev_notV (a := false) (ev_isi (ev_var rfl) ty (by decide +kernel))) (by simp)) k
structure GenT (P : Program) (w : World) (K : PySem.W.Frag) (mg : Str → Option Value) (base : Heap) (n : Nat) (x : Str) (ps : List Str) (sp : Sp) (f : Addr) (fd : FuncData) : Prop where
  F : FnT P w K mg base n f fd ps sp
  g : mg x = some (.ref f)
  kp : PySem.W.keepIn K (.ref f) = true
  b : Binds K fd ps []
/-- what the caught errors ask -/
structure Caught (K : PySem.W.Frag) (ec : EK → Addr) (re : Addr) : Prop where
  exm : ∀ k, PySem.W.exmOne K (.ref (ec k)) (.ref re) = some true
  lrg : PySem.W.exmOne K (.ref (ec .large)) (.ref (ec .large)) = some true
theorem ev_isnumT {ax : Addr} {n : Int} {ex : EK} {fv : List V} (hx : ErrAt ec H ax ex fv) (h : Ev te σ H (.int n)) : Ev (tCallTs ax spIsNum (tCons te tNil)) σ H (.bl true) := fun H1 e Q q =>
  (ea_cons h ea_nil) H1 e _ fun H2 e2 => by
    obtain ⟨dd, h1, _⟩ := hx.mono (e.trans e2)
    exact ⟨⟨_, _, h1⟩, n, rfl, fun H3 e3 => q H3 (e2.trans e3)⟩
def spTells (p : Par) (C CS : Addr) : Sp := fun vs H Q _ => ∃ (a sg lr : Addr) (c : Ce) (ps : List Pth) (ads : List Addr) (bs : Pth), vs = [.ref a, .int (ps.idxOf bs : Int), .ref lr, .str p.lt] ∧ PSt p C CS H a sg c ps ∧ bs ∈ ps ∧ ps.length ≤ 40000 ∧ bs.length ≤ 10000 ∧ H lr = some (.lst (ads.map V.ref)) ∧ RowsT H ads (rowsOf p bs) ∧ RetV (.bl true) H Q
theorem scTe : FnScope ["terms", "number", "rows", "letter", "size", "told", "text", "e"] ["terms", "number", "rows", "letter"] (defScope (topS 36)) := ⟨rfl, rfl, rfl, by decide +kernel, rfl, by decide +kernel, by decide +kernel⟩
theorem ok_tells {p : Par} (hp : ParOk p) {f fn fnT fs f1 f2 f3 f4 f5 : Addr} {fd fdn fdnT fds fd1 fd2 fd3 fd4 fd5 : FuncData} {d1 d2 d3 d4 d5 : List Value} (D : DefAt K mg 36 "_law_tells" ["terms", "number", "rows", "letter"] f fd) (S : TermC K C) (E0 : Errs P K mg ec fi) {re : Addr} (Ca : Caught K ec re) (N : Nm mg) (M : NmS mg)
    (IN : GenAt P w K mg base 1 "_law_is_number" ["told"] spIsNum fn fdn) (INT : GenT P w K mg base 1 "_law_is_number" ["told"] spIsNum fnT fdnT) (SI : GenAt P w K mg base 1 "_law_sizes" ["rows"] (spSizes p) fs fds)
    (SZ : MethAt P w K mg base CX0 1 C "size_of" ["self", "term"] [] (spSize C) f1 fd1 d1) (LS : MethAt P w K mg base CX0 1 C "letters_of" ["self", "term"] [] (spLetters C) f2 fd2 d2) (FI : MethAt P w K mg base CX0 1 C "first_letters_of" ["self", "term"] [] (spFirst C) f3 fd3 d3) (SH : MethAt P w K mg base CX0 1 C "shared" ["self", "term"] [] (spShared C) f4 fd4 d4) (WR : MethAt P w K mg base (L2N.CX P w) 2 C "write" ["self", "term"] [] (spWrite ec C) f5 fd5 d5) :
    FnOk P w K mg base CX0 4 f fd ["terms", "number", "rows", "letter"] (spTells p C CS) := by
  refine D.F.ok scTe (fun vs H Q E h => ?_) (fun cdv A outer s H vs Q E hr h => ?_)
  · obtain ⟨a, sg, lr, c, ps, ads, bs, rfl, _⟩ := h
    rfl
  · obtain ⟨a, sg, lr, c, ps, ads, bs, rfl, hP, hb, hl, hz, hlr, hR, k⟩ := h
    have hS := hP.st
    have hg := st_get (p := p) hb
    have slt : PyData.strOk p.lt = true := let_ok hp.let_
    refine ⟨_, (pss_cons (ps_asg (pe_ix (r := rIxL K) ix_list (pe_call SI.F (hr.mono (by decide)) (by rfl) SI.g SI.kp SI.b .nil pass0 (pa_cons (pv 2) pa_nil)) (pe_un un_neg pe_int) (fun _ _ => rfl)) (pg_name (i := 4) scTe.nd rfl (.inl rfl))) (pss_cons (ps_asg (pe_meth (pv 0) S.cl SZ.m SZ.F (hr.mono (by decide)) SZ.b SZ.v pass0 (pa_cons (pv 1) pa_nil)) (pg_name (i := 5) scTe.nd rfl (.inl rfl))) (pss_cons (ps_if (PW.pt (pw_or (pt_not (pt_val (pe_call IN.F (hr.mono (by decide)) (by rfl) IN.g IN.kp IN.b .nil pass0 (pa_cons (pv 5) pa_nil)))) (pw_or (pt_cmpR op_ne (pv 5) (pv 4) (nomark _)) (pw_or1 (pt_cmpR (r := rNeD K) (op_neD hr.units) (pe_meth (pv 0) S.cl LS.m LS.F (hr.mono (by decide)) LS.b LS.v pass0 (pa_cons (pv 1) pa_nil)) (pe_tup (pa_cons (pv 3) pa_nil)) (nomark _)))))) (pss_one (ps_ret pe_bl)) pss_nil) (pss_cons (ps_if (PW.pt (pw_or (pt_cmpR (r := rNeD K) (op_neD hr.units) (pe_meth (pv 0) S.cl FI.m FI.F (hr.mono (by decide)) FI.b FI.v pass0 (pa_cons (pv 1) pa_nil)) (pe_tup (pa_cons (pv 3) pa_nil)) (nomark _)) (pw_or1 (pt_cmpR (r := rNeD K) (op_neD hr.units) (pe_meth (pv 0) S.cl SH.m SH.F (hr.mono (by decide)) SH.b SH.v pass0 (pa_cons (pv 1) pa_nil)) (pe_callTy (T := "tuple") (call_tupK (K := K) rfl) (by rfl) M.tuple (by decide +kernel) (pa_cons (pv 2) pa_nil)) (nomark _))))) (pss_one (ps_ret pe_bl)) pss_nil) (pss_cons (ps_try_asT (i := 7) rfl rfl scTe.nd rfl rfl ⟨rfl, by decide, .inl (E0.t .large).gC⟩ takes0N (fun W pn xe tk _ => (pss_one (ps_asg (pe_methS (pv 0) S.cl WR.m WR.F (hr.mono (by decide)) WR.b WR.v (fun σ => L2N.passAt tk σ) (pa_cons (pv 1) pa_nil)) (pg_name (i := 6) scTe.nd rfl (.inl rfl))))) (fun a pn => (pss_one (ps_ret (pe_and (pe_cmpR op_gt (pv 4) pe_int (nomark _)) (pe_and (pe_callTs INT.F (RoomH.mono (j := 1) (k := 3) ⟨hr.dp, hr.un⟩ (by decide)) rfl (by rfl) INT.g INT.kp INT.b (pa_cons (pe_xaK (K := K) rfl (pv 7)) pa_nil)) (pe_one (pe_cmpR op_eq (pe_xaK (K := K) rfl (pv 7)) (pv 4) (nomark _))))))))) (pss_one (ps_ret (pe_and (pe_cmpR op_le (pv 4) pe_int (nomark _)) (pe_and (pe_cmpR op_eq (pe_callB (r := rLenS K) call_len_seq (by rfl) N.len PySem.boot_len (pa_cons (pe_splitS (pv 6) pe_str) pa_nil)) (pv 4) (nomark _)) (pe_one (pe_cmpR op_ge (pe_countS (pv 6) (pv 3)) pe_int (nomark _)))))))))))), ?_⟩
    refine q_asg (v := .int (szB p bs : Int)) (ev_opL1 (el_call (xs := nV (szs p bs (bs.length + 1))) (ea_cons (ev_var rfl) ea_nil) fun H1 e1 Q q E => ⟨lr, ads, bs, rfl, e1 _ _ hlr, hR.mono e1, hz, fun p H2 np e2 h2 => q p H2 np e2 h2⟩) (fun _ _ => ev_un ev_c ru_neg) fun q H1 hq _ => rv_ixL (sq_of hq) (by
      unfold szs
      rw [List.range_succ, List.map_append, nV_app, List.map_cons, List.take_length]
      exact atI_last)) fun H1 e1 => ?_
    refine q_asg (v := .int (szB p bs : Int)) (ev_methT (hS.mono e1) (by decide) (ev_var rfl) (ea_cons (ev_var rfl) ea_nil) fun H2 e2 Q k => ⟨a, sg, c, [], stP p ps, ps.idxOf bs, _, rfl, hS.mono (e1.trans e2), hg, k⟩) fun H2 e2 => ?_
    have e12 := e1.trans e2
    have hP2 := hP.mono e12
    have hS2 := hS.mono e12
    refine q_when (b := false) (et_is (et_or (a := false) (b := false) (et_is (et_not (et_B (b := true) (ev_call (ea_cons (ev_var rfl) ea_nil) fun G1 _ Q q E => ⟨_, rfl, fun G2 e2 => q G2 e2⟩))) rfl) fun _ => et_is (et_or (a := false) (b := false) (et_is (et_test (ev_op (ev_var rfl) (ev_var rfl) (rv_ne rfl))) (by simp)) fun _ => et_test (ne_strs (ss := [p.lt]) (fun x hx => by rw [List.mem_singleton.mp hx]; exact slt) (er_methT hS2 (by decide) (ev_var rfl) (ea_cons (ev_var rfl) ea_nil) fun G1 g1 Q q => ⟨a, sg, c, [], stP p ps, ps.idxOf bs, _, rfl, hS2.mono g1, hg, fun pp G2 g2 h2 => q _ G2 g2 ⟨pp, rfl, h2⟩⟩) fun G1 g1 => eu_tup (ea_cons (ev_var rfl) ea_nil) (by simp))) rfl) rfl) (fun z => by cases z) (fun _ H3 e3 => ?_)
    have e13 := e12.trans e3
    have hS3 := hS.mono e13
    obtain ⟨mf, hfl⟩ := first_path hp hP.ok (by omega) hb hz
    obtain ⟨ms, hsh⟩ := shared_path hp hP.ok (by omega) hb hz
    refine q_when (b := false) (et_is (et_or (a := false) (b := false) (et_test (ne_strs (ss := [p.lt]) (fun x hx => by rw [List.mem_singleton.mp hx]; exact slt) (er_methT hS3 (by decide) (ev_var rfl) (ea_cons (ev_var rfl) ea_nil) fun G1 g1 Q q => ⟨a, sg, c, [], stP p ps, ps.idxOf bs, mf, [p.lt], rfl, hS3.mono g1, hfl, fun pp G2 _ g2 h2 => q _ G2 g2 ⟨pp, rfl, h2⟩⟩) fun G1 g1 => eu_tup (ea_cons (ev_var rfl) ea_nil) (by simp))) fun _ => et_test (ev_opR (Ra := fun v G => ∃ pp ad', v = .ref pp ∧ G pp = some (.tup (ad'.map V.ref)) ∧ RowsT G ad' (rowsOf p bs)) (Rb := fun x y G => ∃ pp ad' qq, x = .ref pp ∧ y = .ref qq ∧ G pp = some (.tup (ad'.map V.ref)) ∧ RowsT G ad' (rowsOf p bs) ∧ G qq = some (.tup (ads.map V.ref)) ∧ RowsT G ads (rowsOf p bs)) (er_methT hS3 (by decide) (ev_var rfl) (ea_cons (ev_var rfl) ea_nil) fun G1 g1 Q q => ⟨a, sg, c, [], stP p ps, ps.idxOf bs, ms, rowsOf p bs, rfl, hS3.mono g1, hsh, fun pp ad' G2 _ g2 h2 h3 => q _ G2 g2 ⟨pp, ad', rfl, h2, h3⟩⟩) (fun x G1 g1 rx => ?_) (fun x y G1 _ r => ?_))) rfl) (fun z => by cases z) (fun _ H4 e4 => ?_)
    · obtain ⟨pp, ad', rfl, h2, h3⟩ := rx
      intro G2 g2 Q q
      exact (eu_tupL (ev_var rfl) (sq_of ((e13.trans g1) _ _ hlr))) G2 g2 _ fun qq G3 _ g3 hqq => q _ G3 g3 ⟨pp, ad', qq, rfl, rfl, g3 _ _ (g2 _ _ h2), (h3.mono g2).mono g3, hqq, hR.mono (((e13.trans g1).trans g2).trans g3)⟩
    · obtain ⟨pp, ad', qq, rfl, rfl, h2, h3, h4, h5⟩ := r
      refine fun G2 g2 Q k => ⟨.tuple (rowsD (rowsOf p bs)), .tuple (rowsD (rowsOf p bs)), .tup (st_of (g2 _ _ h2)) (dp_rows (h3.mono g2)), .tup (st_of (g2 _ _ h4)) (dp_rows (h5.mono g2)), shaped_trows (fun r hr => rows_str hp hr), shaped_trows (fun r hr => rows_str hp hr), ?_⟩
      have : PyData.eqv (.tuple (rowsD (rowsOf p bs))) (.tuple (rowsD (rowsOf p bs))) = true := by
        simp only [PyData.eqv]
        exact eqv_rows _
      rw [this]
      exact k G2 (Ex.refl G2)
    · have e14 := e13.trans e4
      have hS4 := hS.mono e14
      show tAsg (tMethS C "write" (spWrite ec C) [] _ (tVar 0) (tCons (tVar 1) tNil)) (gName 6) _ [some (.ref a), some (.int (ps.idxOf bs : Int)), some (.ref lr), some (.str p.lt), some (.int (szB p bs : Int)), some (.int (szB p bs : Int)), none, none] H4
      generalize hW : wAsT _ _ _ _ _ _ = W
      refine s_asgMethT hS4 (by decide) (ev_var rfl) (ea_cons (ev_var rfl) ea_nil) fun H5 e5 => ⟨a, sg, c, [], stP p ps, ps.idxOf bs, _, rfl, hS4.mono e5, hg, fun hsz d H' hd ed hxd => ?_, fun hsz => ?_⟩
      · subst hW
        refine ⟨true, Ca.lrg, fun _ ax oe hax hxc => ?_, fun z => by cases z⟩
        have nda : d ≠ ax := fun z => by rw [z, hax] at hxd; cases hxd
        have e6 : Ex H (L2.upd H' ax (xcO oe)) := ((e14.trans e5).trans ed).trans (Ex.new hax)
        have hxd2 : (L2.upd H' ax (xcO oe)) d = some (.xd ((fl .large).zip [V.int ((ndP p ps bs).sz : Int)]).reverse) := by rw [upd_ne nda]; exact hxd
        have hF : ErrAt ec (L2.upd H' ax (xcO oe)) ax .large [V.int (szB p bs : Int)] := ⟨d, hxc, hxd2⟩
        have hlk : (((fl .large).zip [V.int (szB p bs : Int)]).reverse).lookup ("size" : Str) = some (V.int (szB p bs : Int)) ∧ ("size" : Str) ∈ fl .large := ⟨by with_unfolding_all rfl, by decide⟩
        have hsz2 : 200 < szB p bs := hsz
        refine s_ret (ev_is (ev_andV (a := true) (b := true) (ev_is (ev_op (ev_var rfl) ev_c rv_I0) (by rw [decide_eq_true (show (szB p bs : Int) > 200 by omega)])) fun _ => ev_andV (a := true) (b := true) (ev_isnumT hF (ev_xa E0 (ev_var rfl) hF hlk)) fun _ => ev_is (ev_op (ev_xa E0 (ev_var rfl) hF hlk) (ev_var rfl) (rv_eq rfl)) (by simp)) rfl) fun H6 e7 => k H6 (e6.trans e7)
      · obtain ⟨m, hm⟩ := write_path hp hP.ok hb hz hsz
        have hwl : ∀ x ∈ wl p bs, x.length ≤ 400 := fun x hx => by
          rcases wl_mem hx with rfl | ⟨b, rfl⟩
          · exact hp.let_.pos.2
          · exact (hp.lw b).2
        have hsum := sum_le hwl
        have hsz2 : szB p bs ≤ 200 := hsz
        rw [wl_len] at hsum
        have hsm : szB p bs * 400 ≤ 200 * 400 := Nat.mul_le_mul_right _ hsz2
        refine ⟨m, wl p bs, hm, by rw [wl_len]; omega, fun H6 e6 => ?_⟩
        have htl := txt_len (wl p bs)
        rw [wl_len] at htl
        have hne : wl p bs ≠ [] := fun z => by
          obtain ⟨ws, hws⟩ := wl_last hp bs
          rw [hws] at z
          simp at z
        have h32 : ∀ x ∈ wl p bs, 32 ∉ tl x := fun x hx => by
          rcases wl_mem hx with rfl | ⟨b, rfl⟩
          · exact hp.b3
          · cases b
            · exact hp.b1
            · exact hp.b2
        have hcnt : 1 ≤ Txt.count (Txt.join (" " : Str) (wl p bs)) p.lt := by
          obtain ⟨ws, hws⟩ := wl_last hp bs
          obtain ⟨A, hA⟩ := join_last (" " : Str) p.lt ws
          refine count_end (A := A) ?_ (by rw [join_eq, hws]; exact hA)
          intro z
          have := hp.let_.pos.1
          rw [len_tl, z] at this
          simp at this
        refine s_ret (ev_is (ev_andV (a := true) (b := true) (ev_is (ev_op (ev_var rfl) ev_c rv_I0) (by rw [decide_eq_true (show (szB p bs : Int) ≤ 200 by omega)])) fun _ => ev_andV (a := true) (b := true) (ev_is (ev_op (ev_lenN (el_split (ev_var rfl) ev_c (by decide) (by omega))) (ev_var rfl) (rv_eq rfl)) (by rw [split_back hne h32, List.length_map, wl_len]; simp)) fun _ => ev_is (ev_op (ev_count (ev_var rfl) (ev_var rfl)) ev_c rv_I0) (by rw [decide_eq_true (show Txt.count (Txt.join (" " : Str) (wl p bs)) p.lt ≥ 1 from hcnt)])) rfl) fun H7 e7 => k H7 (((e14.trans e5).trans e6).trans e7)
end
end K87
-- B6
namespace K87
open PySem PySem.Spec PyProof.Rows L2 L2H Evl KEv TL KDd KSq KSame KTxt KHot KSup KNew KRvT KD KTry
/-! _law_refuses -/
/-- what from_shared does with these rows, told by paths; it refuses them at due -/
structure RefusedAt (p : Par) (ps ps' : List Pth) (rs : List RowI) (due : Nat) : Prop where
  more : More ps ps'
  len : ps'.length ≤ ps.length + rs.length
  run : ∃ nums o, FsRun [p.lt] (sortsP p) (signsP p) rs (stP p ps) [] (stP p ps', nums, o) ∧
    (o = some due ∨ (o = none ∧ nums = [] ∧ due = 0) ∨ (o = none ∧ ∃ ns bf, nums = ns ++ [ps'.idxOf bf] ∧ bf ∈ ps' ∧ bf.length ≤ 10000 ∧ due < rs.length ∧ misAt rs (rowsOf p bf) due ∧ ∀ j, j < due → ¬ misAt rs (rowsOf p bf) j))
section
variable {P : Program} {w : World} {K : PySem.W.Frag} {mg : Str → Option Value} {base : Heap} {σ : L2.St} {H : Hp} {C CS a sg : Addr} {te ta tb tc to : TE} {t : TA} {c : Ce} {tx : List (Key × V)} {st : List Nd} {E : XK} {D : Ends} {tz : TS} {m : Str} {sp : Sp} {dvs vs : List V} {v : V} {R : V → Hp → Prop} {ec fi : EK → Addr}
theorem q_dropMethT {Ex' : L2.St → XK} {Ra : List V → Hp → Prop} (hS : StoreAt C H a sg c tx st) (hm : m ∈ tms) (ha : Ev ta σ H (.ref a)) (h : EvRA t σ H Ra) (k : ∀ vs H1, Ex H H1 → Ra vs H1 → sp (.ref a :: (vs ++ dvs)) H1 (fun v H2 => D.nx σ H2) (Ex' σ)) : tDrop (tMethS C m sp dvs Ex' ta t) D σ H :=
  ha H (Ex.refl H) _ fun H1 e1 => by
    obtain ⟨dx, fs, o1, o2⟩ := hS.no
    exact ⟨a, dx, fs, rfl, e1 _ _ o1, o2 m hm, h H1 e1 _ fun vs H2 e2 r => k vs H2 (e1.trans e2) r⟩
def spRefuses (p : Par) (C CS : Addr) : Sp := fun vs H Q _ => ∃ (a sg ls : Addr) (lr : V) (c : Ce) (ps ps' : List Pth) (ads : List Addr) (rs : List RowI) (due : Nat), vs = [.ref a, lr, .ref ls, .int (due : Int)] ∧ PSt p C CS H a sg c ps ∧ H ls = some (.lst (ads.map V.ref)) ∧ RowsI H ads rs ∧ ps.length + rs.length ≤ 40000 ∧ (∀ r ∈ rs, PyData.strOk r.1 = true) ∧ RefusedAt p ps ps' rs due ∧
  ∀ H', ExB (cells c) H H' → StoreAt C H' a sg c [] (stP p ps') → Q (.bl true) H'
theorem scRf : FnScope ["terms", "rows", "spoilt", "due", "e"] ["terms", "rows", "spoilt", "due"] (defScope (topS 37)) := ⟨rfl, rfl, rfl, by decide +kernel, rfl, by decide +kernel, by decide +kernel⟩
theorem ok_refuses {p : Par} (hp : ParOk p) {f fnT ff : Addr} {fd fdnT fdf : FuncData} {df : List Value} (D : DefAt K mg 37 "_law_refuses" ["terms", "rows", "spoilt", "due"] f fd) (S : TermC K C) (E0 : Errs P K mg ec fi) {re : Addr} (Ca : Caught K ec re) (gR : mg "RuleError" = some (.ref re)) (N : Nm mg) (M : NmS mg)
    (INT : GenT P w K mg base 1 "_law_is_number" ["told"] spIsNum fnT fdnT) (FS : MethAt P w K mg base (L2N.CX P w) 8 C "from_shared" ["self", "rows"] [] (spFromShared ec C CS) ff fdf df) : FnOk P w K mg base CX0 9 f fd ["terms", "rows", "spoilt", "due"] (spRefuses p C CS) := by
  refine D.F.ok scRf (fun vs H Q E h => ?_) (fun cdv A outer s H vs Q E hr h => ?_)
  · obtain ⟨a, sg, ls, lr, c, ps, ps', ads, rs, due, rfl, _⟩ := h
    rfl
  · obtain ⟨a, sg, ls, lr, c, ps, ps', ads, rs, due, rfl, hP, hls, hR, hz, hso, hRef, k⟩ := h
    have hS := hP.st
    obtain ⟨pc, psA, pa, pr, sgn, hG⟩ := hP.sig
    obtain ⟨nums, o, hrun, hcase⟩ := hRef.run
    have hl' : ps'.length ≤ 40000 := by have := hRef.len; omega
    refine ⟨_, (pss_cons (ps_try_asT (i := 4) rfl rfl scRf.nd rfl rfl ⟨rfl, by decide, .inl gR⟩ takes0N (fun W pn xe tk _ => (pss_one (ps_expr (pe_methS (pv 0) S.cl FS.m FS.F (hr.mono (by decide)) FS.b FS.v (fun σ => L2N.passAt tk σ) (pa_cons (pe_callTy (T := "tuple") (call_tupK (K := K) rfl) (by rfl) M.tuple (by decide +kernel) (pa_cons (pv 2) pa_nil)) pa_nil))))) (fun a pn => (pss_one (ps_ret (pe_and (pe_callB (r := rIsX K) call_isX (by rfl) M.isi (by decide +kernel) (pa_cons (pv 4) (pa_cons (pe_glob (v := .ref (ec .rows)) (by rfl) (E0.t .rows).gC rfl) pa_nil))) (pe_and (pe_callTs INT.F (RoomH.mono (j := 1) (k := 8) ⟨hr.dp, hr.un⟩ (by decide)) rfl (by rfl) INT.g INT.kp INT.b (pa_cons (pe_xaK (K := K) rfl (pv 4)) pa_nil)) (pe_one (pe_cmpR op_eq (pe_xaK (K := K) rfl (pv 4)) (pv 3) (nomark _))))))))) (pss_one (ps_ret pe_bl))), ?_⟩
    show tDrop (tMethS C "from_shared" (spFromShared ec C CS) [] _ (tVar 0) (tCons (tCB (rTupSq K) (tCons (tVar 2) tNil)) tNil)) _ [some (.ref a), some lr, some (.ref ls), some (.int (due : Int)), none] H
    generalize hW : wAsT _ _ _ _ _ _ = W
    have wish : ∀ {H1 : Hp}, Ex H H1 → RaisesP ec .rows [.int (due : Int)] (cells c) (fun H' => StoreAt C H' a sg c [] (stP p ps')) H1 (WE W [some (.ref a), some lr, some (.ref ls), some (.int (due : Int)), none]) := by
      intro H1 e1 d H' hd x hS' hxd
      subst hW
      refine ⟨true, Ca.exm .rows, fun _ ax oe hax hxc => ?_, fun z => by cases z⟩
      have nda : d ≠ ax := fun z => by rw [z, hax] at hxd; cases hxd
      have hxd2 : (L2.upd H' ax (xcO oe)) d = some (.xd ((fl .rows).zip [V.int (due : Int)]).reverse) := by rw [upd_ne nda]; exact hxd
      have hF : ErrAt ec (L2.upd H' ax (xcO oe)) ax .rows [V.int (due : Int)] := ⟨d, hxc, hxd2⟩
      have hlk : (((fl .rows).zip [V.int (due : Int)]).reverse).lookup ("place" : Str) = some (V.int (due : Int)) ∧ ("place" : Str) ∈ fl .rows := ⟨by with_unfolding_all rfl, by decide⟩
      have en : Ex H' (L2.upd H' ax (xcO oe)) := Ex.new hax
      refine s_ret (ev_is (ev_andV (a := true) (b := true) (ev_is (ev_isX E0 (j := .rows) (k := .rows) (ev_var rfl) hF) rfl) fun _ => ev_andV (a := true) (b := true) (ev_isnumT hF (ev_xa E0 (ev_var rfl) hF hlk)) fun _ => ev_is (ev_op (ev_xa E0 (ev_var rfl) hF hlk) (ev_var rfl) (rv_eq rfl)) (by simp)) rfl) fun H6 e7 => k H6 (fun b o hb ho => (en.trans e7) _ _ (x b o hb (e1 _ _ ho))) (hS'.mono (en.trans e7))
    refine q_dropMethT (Ra := fun vs G => ∃ q, vs = [.ref q] ∧ G q = some (.tup (ads.map V.ref))) hS (by decide) (ev_var rfl) (era_U1 (eu_tupL (ev_var rfl) (sq_of hls))) fun vs H1 e1 hvs => ?_
    obtain ⟨q, rfl, hq⟩ := hvs
    refine ⟨a, sg, q, c, [], stP p ps, stP p ps', ads, rs, nums, o, [p.lt], sortsP p, signsP p, pc, psA, pa, pr, sgn, rfl, hS.mono e1, hG.mono e1, hq, hR.mono e1, fun g hg => ?_, hrun, hso, fun kk hk => ?_, fun ho hn => ?_, fun ho ns n hn => ?_⟩
    · unfold signsP at hg
      simp only [List.mem_cons, List.not_mem_nil, or_false] at hg
      rcases hg with rfl | rfl
      · exact ⟨hp.c1, by show 1 ≤ 4; decide⟩
      · exact ⟨hp.c2, by simp; exact hp.ar4⟩
    · rcases hcase with h | ⟨h, _⟩ | ⟨h, _⟩
      · rw [hk] at h
        rw [Option.some.inj h]
        exact wish e1
      · rw [hk] at h; cases h
      · rw [hk] at h; cases h
    · rcases hcase with h | ⟨_, _, h⟩ | ⟨_, ns, bf, h, _⟩
      · rw [ho] at h; cases h
      · subst h
        exact wish e1
      · rw [hn] at h
        simp at h
    · rcases hcase with h | ⟨_, h, _⟩ | ⟨_, ns', bf, h, hbf, hbl, hdl, hmis, hno⟩
      · rw [ho] at h; cases h
      · rw [h] at hn
        simp at hn
      · rw [hn] at h
        have hn2 : n = ps'.idxOf bf := by
          have := List.append_inj_right' h rfl
          exact (List.cons.inj this).1
        obtain ⟨m, hm⟩ := shared_path hp hRef.more.ok (by omega) hbf hbl
        rw [hn2]
        refine ⟨m, rowsOf p bf, hm, fun r hr => rows_str hp hr, fun kk hkl hkm hkn => ?_, fun hall => absurd hmis (hall due hdl)⟩
        have : kk = due := by
          rcases Nat.lt_trichotomy kk due with z | z | z
          · exact absurd hkm (hno kk z)
          · exact z
          · exact absurd hmis (hkn due z)
        rw [this]
        exact wish e1
end
end K87
-- A4
namespace K87
open PySem PySem.Spec PyProof.Rows L2 Evl KEv TL KDd KSq KSame KTxt KNew KRvT KD
/-! spoilt rows: where they are refused -/
def rfOf (bs : Pth) : List Rf := none :: bs.zipIdx.map fun q => some (q.1, q.2)
theorem rfOf_len (bs : Pth) : (rfOf bs).length = bs.length + 1 := by simp [rfOf]
theorem rfOf_zero (bs : Pth) : (rfOf bs)[0]? = some none := rfl
theorem rfOf_succ {bs : Pth} {j : Nat} {b : Bool} (h : bs[j]? = some b) : (rfOf bs)[j + 1]? = some (some (b, j)) := by
  unfold rfOf
  rw [List.getElem?_cons_succ, List.getElem?_map, List.getElem?_zipIdx, h]
  simp
theorem rf_rows (p : Par) (bs : Pth) : (rfOf bs).map (rowRf p) = (rowsOf p bs).map toI := by
  apply List.ext_getElem?
  intro i
  rw [List.getElem?_map, List.getElem?_map]
  cases i with
  | zero =>
    rw [rfOf_zero, rows_zero]
    rfl
  | succ j =>
    by_cases hj : j < bs.length
    · obtain ⟨b, hb⟩ : ∃ b, bs[j]? = some b := ⟨_, List.getElem?_eq_getElem hj⟩
      rw [rfOf_succ hb, rows_get hb]
      show some (p.wd b, List.replicate (p.a1 b) (j : Int)) = some (toI _)
      unfold toI
      rw [List.map_replicate]
    · rw [List.getElem?_eq_none (by rw [rfOf_len]; omega), List.getElem?_eq_none (by rw [rows_len]; omega)]
      rfl
theorem okRf_of : ∀ (rfs : List Rf) (n : Nat), (∀ i b k, rfs[i]? = some (some (b, k)) → k < n + i) → okRf n rfs
  | [], _, _ => trivial
  | none :: r, n, h => okRf_of r (n + 1) fun i b k z => by have := h (i + 1) b k z; omega
  | some (b, k) :: r, n, h => ⟨by have := h 0 b k rfl; omega, okRf_of r (n + 1) fun i b k z => by have := h (i + 1) b k z; omega⟩
/-- what each row adds -/
theorem runRf_get : ∀ (rfs : List Rf) (qs : List Pth), okRf qs.length rfs → (∀ (i : Nat) (q : Pth), qs[i]? = some q → (runRf qs rfs)[i]? = some q) ∧
    ∀ (i : Nat) (rf : Rf), rfs[i]? = some rf → (runRf qs rfs)[qs.length + i]? = some (match rf with | none => [] | some (b, k) => (runRf qs rfs).getD k [] ++ [b])
  | [], qs, _ => ⟨fun i q h => h, fun i rf h => by cases h⟩
  | none :: r, qs, ho => by
    obtain ⟨h1, h2⟩ := runRf_get r (qs ++ [[]]) (by rw [List.length_append]; exact ho)
    have h1' : ∀ i q, qs[i]? = some q → (runRf (qs ++ [[]]) r)[i]? = some q := fun i q h => h1 i q (by rw [List.getElem?_append_left (List.getElem?_eq_some_iff.mp h).1]; exact h)
    refine ⟨h1', fun i rf h => ?_⟩
    cases i with
    | zero =>
      obtain rfl : none = rf := Option.some.inj h
      exact h1 qs.length [] (by rw [List.getElem?_append_right (Nat.le_refl _)]; simp)
    | succ i =>
      have := h2 i rf h
      rw [List.length_append, List.length_singleton] at this
      rw [show qs.length + (i + 1) = qs.length + 1 + i by omega]
      exact this
  | some (b, k) :: r, qs, ho => by
    obtain ⟨hk, ho⟩ := ho
    obtain ⟨c, hc⟩ : ∃ c, qs[k]? = some c := ⟨_, List.getElem?_eq_getElem hk⟩
    have hgd : qs.getD k [] = c := by rw [List.getD_eq_getElem?_getD, hc]; rfl
    obtain ⟨h1, h2⟩ := runRf_get r (qs ++ [c ++ [b]]) (by rw [List.length_append]; exact ho)
    have h1' : ∀ i q, qs[i]? = some q → (runRf (qs ++ [c ++ [b]]) r)[i]? = some q := fun i q h => h1 i q (by rw [List.getElem?_append_left (List.getElem?_eq_some_iff.mp h).1]; exact h)
    have e : runRf qs (some (b, k) :: r) = runRf (qs ++ [c ++ [b]]) r := by
      show runRf (qs ++ [qs.getD k [] ++ [b]]) r = _
      rw [hgd]
    rw [e]
    refine ⟨h1', fun i rf h => ?_⟩
    cases i with
    | zero =>
      obtain rfl : some (b, k) = rf := Option.some.inj h
      have z := h1 qs.length (c ++ [b]) (by rw [List.getElem?_append_right (Nat.le_refl _)]; simp)
      show (runRf (qs ++ [c ++ [b]]) r)[qs.length + 0]? = some ((runRf (qs ++ [c ++ [b]]) r).getD k [] ++ [b])
      rw [Nat.add_zero, z, List.getD_eq_getElem?_getD, h1' k c hc]
      rfl
    | succ i =>
      have := h2 i rf h
      rw [List.length_append, List.length_singleton] at this
      rw [show qs.length + (i + 1) = qs.length + 1 + i by omega]
      exact this
section
variable {p : Par} {ps : List Pth} (hp : ParOk p) (h : PathsOk ps)
include hp h in
/-- rows that are all well formed: the last one's path -/
theorem good_run {rfs : List Rf} (ho : okRf 0 rfs) (hl : ps.length + rfs.length ≤ 40000) : ∃ ps', More ps ps' ∧ ps'.length ≤ ps.length + rfs.length ∧ (∀ q ∈ runRf [] rfs, q ∈ ps') ∧ FsRun [p.lt] (sortsP p) (signsP p) (rfs.map (rowRf p)) (stP p ps) [] (stP p ps', (runRf [] rfs).map ps'.idxOf, none) := by
  obtain ⟨ps', a, b, c, hr⟩ := fs_run hp rfs ps [] h (fun q hq => by cases hq) ho hl (by simp; omega)
  refine ⟨ps', a, c, b, ?_⟩
  have := hr [] (stP p ps', (runRf [] rfs).map ps'.idxOf, none) .done
  rwa [List.append_nil] at this
include hp h in
/-- a bad row behind good ones -/
theorem bad_run {rfs : List Rf} {r : RowI} (rest : List RowI) (ho : okRf 0 rfs) (hl : ps.length + rfs.length + 1 ≤ 40000) (h1 : 1 ≤ r.1.length) (h2 : r.1.length ≤ 400) (hc : capH r.1 = true → (wordSort (sortsP p) (signsP p) r.1 300).isSome = true → r.1 = p.lt)
    (hb : ∀ st nums, nums.length = rfs.length → ¬ rowOk (sortsP p) (signsP p) st nums r) : ∃ ps', RefusedAt p ps ps' (rfs.map (rowRf p) ++ r :: rest) rfs.length := by
  obtain ⟨ps', a, b, c, hr⟩ := fs_run hp rfs ps [] h (fun q hq => by cases hq) ho (by omega) (by simp; omega)
  refine ⟨ps', a, by rw [List.length_append, List.length_map]; omega, (runRf [] rfs).map ps'.idxOf, some ((runRf [] rfs).map ps'.idxOf).length, hr _ _ (.bad (wd_path hp (by omega)) (fun n hn => ?_) h1 h2 (fun z1 z2 => by rw [hc z1 z2]; simp) (hb _ _ ?_)), .inl ?_⟩
  · obtain ⟨q, hq, rfl⟩ := List.mem_map.mp hn
    rw [stP_len]
    exact List.idxOf_lt_length_of_mem (b q hq)
  · rw [List.length_map, runRf_len]
    simp
  · rw [List.length_map, runRf_len]
    simp
end
theorem okR_take {bs : Pth} (n : Nat) : okRf 0 ((rfOf bs).take n) := okRf_of _ _ fun i b k hz => by
  have hi := (List.getElem?_eq_some_iff.mp hz).1
  rw [List.length_take] at hi
  rw [List.getElem?_take_of_lt (by omega)] at hz
  cases i with
  | zero => cases hz
  | succ j =>
    obtain ⟨c, hc⟩ : ∃ c, bs[j]? = some c := ⟨_, List.getElem?_eq_getElem (by rw [rfOf_len] at hi; omega)⟩
    rw [rfOf_succ hc] at hz
    have := Option.some.inj (Option.some.inj hz)
    have := (Prod.mk.inj this).2
    omega
theorem map_take_rows (p : Par) (bs : Pth) (n : Nat) : ((rfOf bs).take n).map (rowRf p) = ((rowsOf p bs).take n).map toI := by
  rw [List.map_take, rf_rows, ← List.map_take]
section
variable {p : Par} {ps : List Pth} (hp : ParOk p) (h : PathsOk ps) {bs : Pth} {pl : Nat} (hpl : pl < bs.length + 1) (hl : ps.length + bs.length + 5 ≤ 40000) (rest : List RowI)
include hp h hpl hl
theorem bad_at {r : RowI} (h1 : 1 ≤ r.1.length) (h2 : r.1.length ≤ 400) (hc : capH r.1 = true → (wordSort (sortsP p) (signsP p) r.1 300).isSome = true → r.1 = p.lt) (hb : ∀ st nums, nums.length = pl → ¬ rowOk (sortsP p) (signsP p) st nums r) : ∃ ps', RefusedAt p ps ps' (((rowsOf p bs).take pl).map toI ++ r :: rest) pl := by
  have hlen : ((rfOf bs).take pl).length = pl := by rw [List.length_take, rfOf_len]; omega
  have := bad_run hp h (rfs := (rfOf bs).take pl) (r := r) rest (okR_take pl) (by rw [hlen]; omega) h1 h2 hc (by rw [hlen]; exact hb)
  rwa [hlen, map_take_rows] at this
theorem bad_parts {b : Bool} {z : Int} (hz : ¬ (0 ≤ z ∧ z < (pl : Int))) : ∃ ps', RefusedAt p ps ps' (((rowsOf p bs).take pl).map toI ++ (p.wd b, List.replicate (p.a1 b) z) :: rest) pl := by
  refine bad_at hp h hpl hl rest (hp.lw b).1 (hp.lw b).2 (fun hc => by rw [show ((p.wd b, List.replicate (p.a1 b) z) : RowI).1 = p.wd b from rfl, hp.cw b] at hc; cases hc) fun st nums hn hok => ?_
  have hok := hok.2.2 0 (by simp; exact (hp.aw b).1)
  unfold partOk at hok
  rw [show wants (signsP p) ((p.wd b, List.replicate (p.a1 b) z) : RowI).1 = _ from wants_wd hp b, List.getElem?_replicate, List.getElem?_replicate, if_pos (show 0 < p.a1 b from (hp.aw b).1), if_pos (show 0 < p.a1 b from (hp.aw b).1)] at hok
  simp only [Bool.and_eq_true, decide_eq_true_eq] at hok
  rw [hn] at hok
  exact hz hok.1
theorem bad_long {r : RowN} (hr : (rowsOf p bs)[pl]? = some r) : ∃ ps', RefusedAt p ps ps' (((rowsOf p bs).take pl).map toI ++ (r.1, (toI r).2 ++ [0]) :: rest) pl := by
  have hw : r.1 = p.lt ∧ r.2 = [] ∨ ∃ b j, r = (p.wd b, List.replicate (p.a1 b) j) := by
    rcases rows_mem (List.mem_of_getElem? hr) with rfl | ⟨j, b, _, rfl⟩
    · exact .inl ⟨rfl, rfl⟩
    · exact .inr ⟨b, j, rfl⟩
  have hpos := hp.let_.pos
  rcases hw with ⟨e1, e2⟩ | ⟨b, j, rfl⟩
  · refine bad_at hp h hpl hl rest (by show 1 ≤ r.1.length; rw [e1]; omega) (by show r.1.length ≤ 400; rw [e1]; omega) (fun _ _ => e1) fun st nums hn hok => ?_
    have := hok.2.1
    rw [show ((r.1, (toI r).2 ++ [0]) : RowI).1 = p.lt from e1, wants_let hp] at this
    simp at this
  · refine bad_at hp h hpl hl rest (hp.lw b).1 (hp.lw b).2 (fun hc => by rw [show (((p.wd b, List.replicate (p.a1 b) j).1, (toI (p.wd b, List.replicate (p.a1 b) j)).2 ++ [0]) : RowI).1 = p.wd b from rfl, hp.cw b] at hc; cases hc) fun st nums hn hok => ?_
    have := hok.2.1
    rw [show (((p.wd b, List.replicate (p.a1 b) j).1, (toI (p.wd b, List.replicate (p.a1 b) j)).2 ++ [0]) : RowI).1 = p.wd b from rfl, wants_wd hp b] at this
    simp [toI] at this
theorem bad_strange (is : List Int) : ∃ ps', RefusedAt p ps ps' (((rowsOf p bs).take pl).map toI ++ (("none0" : Str), is) :: rest) pl := by
  refine bad_at hp h hpl hl rest (by show 1 ≤ ("none0" : Str).length; decide) (by show ("none0" : Str).length ≤ 400; decide) (fun _ hs => by rw [show ((("none0" : Str), is) : RowI).1 = "none0" from rfl, ws_none hp] at hs; cases hs) fun st nums hn hok => ?_
  have := hok.1
  rw [show ((("none0" : Str), is) : RowI).1 = "none0" from rfl, ws_none hp] at this
  cases this
end
section
variable {p : Par} {ps : List Pth} (hp : ParOk p) (h : PathsOk ps) {bs : Pth} (hz : bs.length ≤ 9000) (hl : ps.length + bs.length + 5 ≤ 40000)
include hp h in
theorem bad_none : ∃ ps', RefusedAt p ps ps' [] 0 := ⟨ps, More.refl h, Nat.le_refl _, [], none, .done, .inr (.inl ⟨rfl, rfl, rfl⟩)⟩
theorem rows_pre {bs cs : Pth} {j : Nat} (hb : cs.take j = bs.take j) (h1 : j ≤ cs.length) (h2 : j ≤ bs.length) : ∀ i, i ≤ j → (rowsOf p cs)[i]? = (rowsOf p bs)[i]? := fun i hi => by
  cases i with
  | zero => rw [rows_zero, rows_zero]
  | succ m =>
    obtain ⟨b, hbm⟩ : ∃ b, bs[m]? = some b := ⟨_, List.getElem?_eq_getElem (by omega)⟩
    have : cs[m]? = some b := by
      rw [← hbm, ← List.getElem?_take_of_lt (show m < j by omega), ← List.getElem?_take_of_lt (l := bs) (show m < j by omega), hb]
    rw [rows_get this, rows_get hbm]
include hp h hl hz in
/-- the first row once more at the end -/
theorem bad_more : ∃ ps', RefusedAt p ps ps' ((rowsOf p bs ++ [(p.lt, [])]).map toI) 1 := by
  have ho : okRf 0 (rfOf bs ++ [none]) := okRf_of _ _ fun i b k hz => by
    by_cases hi : i < (rfOf bs).length
    · rw [List.getElem?_append_left hi] at hz
      cases i with
      | zero => cases hz
      | succ j =>
        obtain ⟨c, hc⟩ : ∃ c, bs[j]? = some c := ⟨_, List.getElem?_eq_getElem (by rw [rfOf_len] at hi; omega)⟩
        rw [rfOf_succ hc] at hz
        have := (Prod.mk.inj (Option.some.inj (Option.some.inj hz))).2
        omega
    · rw [List.getElem?_append_right (by omega)] at hz
      have hj := (List.getElem?_eq_some_iff.mp hz).1
      have e0 : i - (rfOf bs).length = 0 := by simp at hj; omega
      rw [e0] at hz
      cases hz
  have hlen : (rfOf bs ++ [none]).length = bs.length + 2 := by rw [List.length_append, rfOf_len]; rfl
  obtain ⟨ps', m, hl2, hin, hrun⟩ := good_run hp h ho (by rw [hlen]; omega)
  have hmap : (rfOf bs ++ [none]).map (rowRf p) = (rowsOf p bs ++ [(p.lt, [])]).map toI := by
    rw [List.map_append, List.map_append, rf_rows]
    rfl
  have hg := (runRf_get (rfOf bs ++ [none]) [] ho).2 (rfOf bs).length none (by rw [List.getElem?_append_right (Nat.le_refl _)]; simp)
  have hrl : (runRf [] (rfOf bs ++ [none])).length = (rfOf bs).length + 1 := by rw [runRf_len, List.length_append]; simp
  rcases List.eq_nil_or_concat (runRf [] (rfOf bs ++ [none])) with z | ⟨qs, q, hqs⟩
  · rw [z] at hrl; simp at hrl
  · rw [List.concat_eq_append] at hqs
    have hql : qs.length = (rfOf bs).length := by rw [hqs, List.length_append, List.length_singleton] at hrl; omega
    have hq : q = [] := by
      rw [hqs, show ([] : List Pth).length + (rfOf bs).length = qs.length by rw [hql]; simp, List.getElem?_append_right (Nat.le_refl _)] at hg
      simpa using hg
    subst hq
    have hq2 : (qs ++ [[]]).map ps'.idxOf = qs.map ps'.idxOf ++ [ps'.idxOf []] := List.map_append
    rw [hmap, hqs, hq2] at hrun
    refine ⟨ps', m, by rw [List.length_map, List.length_append, rows_len]; simp; omega, _, none, hrun, .inr (.inr ⟨rfl, qs.map ps'.idxOf, [], rfl, hin [] (by rw [hqs]; simp), by simp, by rw [List.length_map, List.length_append, rows_len]; simp, .inl (by rw [rows_len]; exact Nat.le_refl 1), fun j hj hm => ?_⟩)⟩
    have e0 : j = 0 := by omega
    subst e0
    rcases hm with z | z
    · simp [rows_nil] at z
    · refine z ?_
      rw [List.getElem?_map, List.getElem?_append_left (by rw [rows_len]; omega), rows_zero, rows_zero]
/-- the refs with one of them twice -/
def rfD (bs : Pth) (pl : Nat) (x : Rf) : List Rf := (rfOf bs).take (pl + 1) ++ [x] ++ (rfOf bs).drop (pl + 1)
theorem rfD_get {bs : Pth} {pl : Nat} {x : Rf} (hpl : pl < bs.length + 1) (hx : (rfOf bs)[pl]? = some x) (i : Nat) : (rfD bs pl x)[i]? = (rfOf bs)[if i ≤ pl then i else i - 1]? := by
  have h1 : ((rfOf bs).take (pl + 1)).length = pl + 1 := by rw [List.length_take, rfOf_len]; omega
  unfold rfD
  by_cases hi : i ≤ pl
  · rw [if_pos hi, List.append_assoc, List.getElem?_append_left (by omega), List.getElem?_take_of_lt (by omega)]
  · rw [if_neg hi, List.append_assoc, List.getElem?_append_right (by omega), h1]
    cases e : i - (pl + 1) with
    | zero =>
      have : i - 1 = pl := by omega
      rw [this, hx]
      rfl
    | succ m =>
      show ((rfOf bs).drop (pl + 1))[m]? = _
      rw [List.getElem?_drop]
      congr 1
      omega
theorem rfD_len (bs : Pth) (pl : Nat) (x : Rf) (hpl : pl < bs.length + 1) : (rfD bs pl x).length = bs.length + 2 := by
  unfold rfD
  rw [List.length_append, List.length_append, List.length_take, List.length_drop, rfOf_len, List.length_singleton]
  omega
include hp h hl hz in
/-- one row twice -/
theorem bad_double {pl : Nat} (hpl : pl < bs.length + 1) {r : RowN} (hr : (rowsOf p bs)[pl]? = some r) : ∃ ps', RefusedAt p ps ps' (((rowsOf p bs).take (pl + 1) ++ [r] ++ (rowsOf p bs).drop (pl + 1)).map toI) (pl + 1) := by
  obtain ⟨x, hx⟩ : ∃ x, (rfOf bs)[pl]? = some x := ⟨_, List.getElem?_eq_getElem (by rw [rfOf_len]; omega)⟩
  have hrx : rowRf p x = toI r := by
    have e := congrArg (fun l => l[pl]?) (rf_rows p bs)
    simp only [List.getElem?_map, hx, hr, Option.map_some] at e
    exact Option.some.inj e
  have hmap : (rfD bs pl x).map (rowRf p) = ((rowsOf p bs).take (pl + 1) ++ [r] ++ (rowsOf p bs).drop (pl + 1)).map toI := by
    unfold rfD
    rw [List.map_append, List.map_append, List.map_append, List.map_append, map_take_rows, List.map_drop, rf_rows, ← List.map_drop]
    rw [show [x].map (rowRf p) = [r].map toI by show [rowRf p x] = [toI r]; rw [hrx]]
  have ho : okRf 0 (rfD bs pl x) := okRf_of _ _ fun i b k hz => by
    rw [rfD_get hpl hx] at hz
    have key : ∀ m, (rfOf bs)[m]? = some (some (b, k)) → k < m := fun m hm => by
      cases m with
      | zero => cases hm
      | succ j =>
        obtain ⟨c, hc⟩ : ∃ c, bs[j]? = some c := ⟨_, List.getElem?_eq_getElem (by have := (List.getElem?_eq_some_iff.mp hm).1; rw [rfOf_len] at this; omega)⟩
        rw [rfOf_succ hc] at hm
        have := (Prod.mk.inj (Option.some.inj (Option.some.inj hm))).2
        omega
    have := key _ hz
    by_cases hi : i ≤ pl
    · rw [if_pos hi] at this; omega
    · rw [if_neg hi] at this; omega
  have hlen := rfD_len bs pl x hpl
  obtain ⟨ps', m, hl2, hin, hrun⟩ := good_run hp h ho (by rw [hlen]; omega)
  obtain ⟨_, hget⟩ := runRf_get (rfD bs pl x) [] ho
  have hget : ∀ (i : Nat) (rf : Rf), (rfOf bs)[if i ≤ pl then i else i - 1]? = some rf → (runRf [] (rfD bs pl x))[i]? = some (match rf with | none => [] | some (b, k) => (runRf [] (rfD bs pl x)).getD k [] ++ [b]) := fun i rf hi => by
    have := hget i rf (by rw [rfD_get hpl hx]; exact hi)
    simpa using this
  have hgd : ∀ {k : Nat} {q : Pth}, (runRf [] (rfD bs pl x))[k]? = some q → (runRf [] (rfD bs pl x)).getD k [] = q := fun hk => by rw [List.getD_eq_getElem?_getD, hk]; rfl
  have c1 : ∀ i, i ≤ pl → (runRf [] (rfD bs pl x))[i]? = some (bs.take i) := by
    intro i
    induction i with
    | zero => intro _; exact hget 0 none (by rw [if_pos (Nat.zero_le _)]; rfl)
    | succ j ih =>
      intro hj
      obtain ⟨b, hb⟩ : ∃ b, bs[j]? = some b := ⟨_, List.getElem?_eq_getElem (by omega)⟩
      have := hget (j + 1) (some (b, j)) (by rw [if_pos hj]; exact rfOf_succ hb)
      rw [this, take_snoc hb]
      show some ((runRf [] (rfD bs pl x)).getD j [] ++ [b]) = _
      rw [hgd (ih (by omega))]
  have c2 : ∀ i, pl ≤ i → i < bs.length + 2 → ∃ q, (runRf [] (rfD bs pl x))[i]? = some q ∧ q.take pl = bs.take pl ∧ pl ≤ q.length ∧ q.length ≤ i := by
    intro i
    induction i using Nat.strongRecOn with
    | _ i ih =>
      intro h1 h2
      by_cases e0 : i = pl
      · refine ⟨bs.take pl, by rw [e0]; exact c1 pl (Nat.le_refl _), by rw [List.take_take, Nat.min_self], by rw [List.length_take]; omega, by rw [List.length_take]; omega⟩
      · by_cases e1 : i = pl + 1
        · have hi : ¬ i ≤ pl := by omega
          cases pl with
          | zero =>
            have := hget i none (by rw [if_neg hi, e1]; rfl)
            exact ⟨[], this, rfl, Nat.zero_le _, Nat.zero_le _⟩
          | succ j =>
            obtain ⟨b, hb⟩ : ∃ b, bs[j]? = some b := ⟨_, List.getElem?_eq_getElem (by omega)⟩
            have := hget i (some (b, j)) (by rw [if_neg hi, e1]; exact rfOf_succ hb)
            refine ⟨bs.take (j + 1), ?_, by rw [List.take_take, Nat.min_self], by rw [List.length_take]; omega, by rw [List.length_take]; omega⟩
            rw [this, take_snoc hb]
            show some ((runRf [] (rfD bs (j + 1) x)).getD j [] ++ [b]) = _
            rw [hgd (c1 j (by omega))]
        · obtain ⟨m, rfl⟩ : ∃ m, i = m + 2 := ⟨i - 2, by omega⟩
          obtain ⟨b, hb⟩ : ∃ b, bs[m]? = some b := ⟨_, List.getElem?_eq_getElem (by omega)⟩
          have := hget (m + 2) (some (b, m)) (by rw [if_neg (by omega)]; exact rfOf_succ hb)
          obtain ⟨q, q1, q2, q3, q4⟩ := ih m (by omega) (by omega) (by omega)
          refine ⟨q ++ [b], ?_, by rw [List.take_append_of_le_length q3]; exact q2, by rw [List.length_append]; omega, by rw [List.length_append, List.length_singleton]; omega⟩
          rw [this]
          show some ((runRf [] (rfD bs pl x)).getD m [] ++ [b]) = _
          rw [hgd q1]
  obtain ⟨bf, b1, b2, b3, b4⟩ := c2 (bs.length + 1) (by omega) (by omega)
  have hrl : (runRf [] (rfD bs pl x)).length = bs.length + 2 := by rw [runRf_len, hlen]; simp
  have hlast : ∃ qs, runRf [] (rfD bs pl x) = qs ++ [bf] := by
    rcases List.eq_nil_or_concat (runRf [] (rfD bs pl x)) with z | ⟨qs, q, hqs⟩
    · rw [z] at hrl; simp at hrl
    · rw [List.concat_eq_append] at hqs
      rw [hqs, List.length_append, List.length_singleton] at hrl
      rw [hqs, List.getElem?_append_right (by omega), show bs.length + 1 - qs.length = 0 by omega] at b1
      exact ⟨qs, by rw [hqs, ← Option.some.inj b1]⟩
  obtain ⟨qs, hqs⟩ := hlast
  have hq2 : (qs ++ [bf]).map ps'.idxOf = qs.map ps'.idxOf ++ [ps'.idxOf bf] := List.map_append
  rw [hmap, hqs, hq2] at hrun
  have hrlen : (((rowsOf p bs).take (pl + 1) ++ [r] ++ (rowsOf p bs).drop (pl + 1)).map toI).length = bs.length + 2 := by rw [← hmap, List.length_map, hlen]
  have hrow : ∀ i, (((rowsOf p bs).take (pl + 1) ++ [r] ++ (rowsOf p bs).drop (pl + 1)).map toI)[i]? = ((rowsOf p bs)[if i ≤ pl then i else i - 1]?).map toI := fun i => by
    rw [← hmap, List.getElem?_map, rfD_get hpl hx, ← List.getElem?_map, rf_rows, List.getElem?_map]
  refine ⟨ps', m, by rw [hrlen]; rw [hlen] at hl2; exact hl2, _, none, hrun, .inr (.inr ⟨rfl, qs.map ps'.idxOf, bf, rfl, hin bf (by rw [hqs]; simp), by omega, by rw [hrlen]; omega, ?_, fun j hj hm => ?_⟩)⟩
  · by_cases hbf : bf.length = pl
    · exact .inl (by rw [rows_len]; omega)
    · refine .inr fun e => ?_
      obtain ⟨c, hc⟩ : ∃ c, bf[pl]? = some c := ⟨_, List.getElem?_eq_getElem (by omega)⟩
      rw [hrow, if_neg (by omega), show pl + 1 - 1 = pl by omega, hr, rows_get hc] at e
      have e := toI_inj.mp (Option.some.inj e)
      have ha := hp.aw c
      obtain ⟨n, hn⟩ : ∃ n, p.a1 c = n + 1 := ⟨p.a1 c - 1, by omega⟩
      cases pl with
      | zero =>
        rw [rows_zero] at hr
        have hr := Option.some.inj hr
        rw [← hr, hn, List.replicate_succ] at e
        have := (Prod.mk.inj e).2
        cases this
      | succ j =>
        obtain ⟨b, hb⟩ : ∃ b, bs[j]? = some b := ⟨_, List.getElem?_eq_getElem (by omega)⟩
        rw [rows_get hb] at hr
        have hr := Option.some.inj hr
        rw [← hr] at e
        have := rep_inj ha.1 (Prod.mk.inj e).2
        omega
  · have hj : j ≤ pl := by omega
    rcases hm with z | z
    · rw [rows_len] at z; omega
    · refine z ?_
      rw [hrow, if_pos hj, rows_pre (p := p) b2 b3 (by omega) j hj]
end
end K87
-- B7
namespace K87
open PySem PySem.Spec PyProof.Rows L2 Evl KEv TL KDd KSq KSame KTxt KNew KRvT KD
/-! _law_spoils -/
theorem RowsI.app {H : Hp} {a1 a2 : List Addr} {r1 r2 : List RowI} (h1 : RowsI H a1 r1) (h2 : RowsI H a2 r2) : RowsI H (a1 ++ a2) (r1 ++ r2) := by
  refine ⟨by rw [List.length_append, List.length_append, h1.len, h2.len], fun i q r z1 z2 => ?_⟩
  by_cases hi : i < r1.length
  · rw [List.getElem?_append_left (by rw [h1.len]; exact hi)] at z1
    rw [List.getElem?_append_left hi] at z2
    exact h1.at_ i q r z1 z2
  · rw [List.getElem?_append_right (by rw [h1.len]; omega), h1.len] at z1
    rw [List.getElem?_append_right (by omega)] at z2
    exact h2.at_ _ q r z1 z2
theorem RowsI.one {H : Hp} {q : Addr} {r : RowI} (h : H q = some (.tup (rowI r))) : RowsI H [q] [r] := ⟨rfl, fun i q' r' z1 z2 => by
  cases i with
  | zero =>
    have z1 : q = q' := Option.some.inj z1
    have z2 : r = r' := Option.some.inj z2
    rw [← z1, ← z2]
    exact h
  | succ i => cases z1⟩
theorem RowsI.take {H : Hp} {a1 : List Addr} {r1 : List RowI} (h1 : RowsI H a1 r1) (n : Nat) : RowsI H (a1.take n) (r1.take n) := ⟨by rw [List.length_take, List.length_take, h1.len], fun i q r z1 z2 => by
  have hi := (List.getElem?_eq_some_iff.mp z1).1
  rw [List.length_take] at hi
  rw [List.getElem?_take_of_lt (by omega)] at z1 z2
  exact h1.at_ i q r z1 z2⟩
theorem RowsI.drop {H : Hp} {a1 : List Addr} {r1 : List RowI} (h1 : RowsI H a1 r1) (n : Nat) : RowsI H (a1.drop n) (r1.drop n) := ⟨by rw [List.length_drop, List.length_drop, h1.len], fun i q r z1 z2 => by
  rw [List.getElem?_drop] at z1 z2
  exact h1.at_ _ q r z1 z2⟩
/-- a test that changes the cells F -/
def EvTP (F : List Addr) (tt : TT) (σ : L2.St) (H : Hp) (b : Bool) (R : Hp → Prop) : Prop := ∀ H1, Ex H H1 → ∀ Q : Bool → Hp → Prop, (∀ H2, ExB F H1 H2 → R H2 → Q b H2) → tt σ H1 Q
section
variable {P : Program} {w : World} {K : PySem.W.Frag} {mg : Str → Option Value} {base : Heap} {σ : L2.St} {H : Hp} {C CS a sg lr : Addr} {te ta tb tc t1 t2 t3 : TE} {tt tu : TT} {ts : TS} {c : Ce} {E : XK} {D : Ends} {tz : TS} {p : Par} {ps : List Pth} {F : List Addr} {R R' : Hp → Prop} {xs ys zs : List V} {ads : List Addr} {b b' : Bool} {tlo thi : TO}
theorem etp_B (h : EvP F te σ H fun v G => v = .bl b ∧ R G) : EvTP F (tB te) σ H b R := fun H1 e Q q => h H1 e _ fun v H2 x r => by
  obtain ⟨rfl, r⟩ := r
  exact ⟨b, rfl, q H2 x r⟩
theorem etp_not (h : EvTP F tt σ H b R) : EvTP F (tNot tt) σ H (!b) R := fun H1 e Q q => h H1 e _ fun H2 x r => q H2 x r
theorem etp_or (h1 : EvTP F tt σ H false R) (h2 : ∀ H1, ExB F H H1 → R H1 → EvTP F tu σ H1 false R') : EvTP F (tOr tt tu) σ H false R' := fun H1 e Q q => h1 H1 e _ fun H2 x r => by
  show tu σ H2 Q
  exact h2 H2 (fun b o hb ho => x b o hb (e _ _ ho)) r H2 (Ex.refl H2) Q fun H3 x3 r3 => q H3 (x.trans x3) r3
theorem q_whenP (h : EvTP F tt σ H false R) (k : ∀ H1, ExB F H H1 → R H1 → tz D σ H1) : tSeq (tIfS tt ts tNext) tz D σ H := h H (Ex.refl H) _ fun H1 x r => k H1 x r
theorem s_whenP (h : EvTP F tt σ H false R) (k : ∀ H1, ExB F H H1 → R H1 → D.nx σ H1) : tIfS tt ts tNext D σ H := h H (Ex.refl H) _ fun H1 x r => k H1 x r
theorem evp_and (h1 : EvP F ta σ H fun v G => v = .bl true ∧ R G) (h2 : ∀ H1, ExB F H H1 → R H1 → EvP F tb σ H1 fun v G => v = .bl true ∧ R' G) : EvP F (tAndV ta tb) σ H fun v G => v = .bl true ∧ R' G := fun H1 e Q q => h1 H1 e _ fun v H2 x r => by
  obtain ⟨rfl, r⟩ := r
  refine ⟨true, rfl, ?_⟩
  show tb σ H2 Q
  exact h2 H2 (fun b o hb ho => x b o hb (e _ _ ho)) r H2 (Ex.refl H2) Q fun v3 H3 x3 r3 => q v3 H3 (x.trans x3) r3
theorem el_catLL (ha : EvL ta σ H xs) (hb : ∀ H1, Ex H H1 → EvL tb σ H1 ys) (hl : xs.length + ys.length ≤ 100000) : EvL (tOp rCat ta tb) σ H (xs ++ ys) := fun H1 e Q q =>
  ha H1 e _ fun p H2 hp e2 h2 => hb H2 (e.trans e2) H2 (Ex.refl H2) _ fun q2 H3 hq e3 h3 => ⟨p, q2, xs, ys, rfl, rfl, e3 _ _ h2, h3, sz_of hl, fun r hr => q r _ (fresh_back (e2.trans e3) hr) ((e2.trans e3).trans (Ex.new hr)) upd_same⟩
theorem el_catVL2 (ha : Ev ta σ H (.ref lr)) (h1 : H lr = some (.lst xs)) (hb : ∀ H1, Ex H H1 → EvL tb σ H1 ys) (hl : xs.length + ys.length ≤ 100000) : EvL (tOp rCat ta tb) σ H (xs ++ ys) := fun H1 e Q q =>
  ha H1 e _ fun H2 e2 => hb H2 (e.trans e2) H2 (Ex.refl H2) _ fun q2 H3 hq e3 h3 => ⟨lr, q2, xs, ys, rfl, rfl, e3 _ _ (e2 _ _ (e _ _ h1)), h3, sz_of hl, fun r hr => q r _ (fresh_back (e2.trans e3) hr) ((e2.trans e3).trans (Ex.new hr)) upd_same⟩
theorem el_take {k : Nat} (ha : Ev ta σ H (.ref lr)) (h : H lr = some (.lst (ads.map V.ref))) (ho : EvO thi σ H (some (k : Int))) (hk : k ≤ ads.length) : EvL (tSl (rSlL K) ta tNoPart thi) σ H ((ads.take k).map V.ref) := by
  have := el_sl (K := K) ha eo_none ho (sq_of h)
  rwa [cutV_take (by rw [List.length_map]; exact hk), ← List.map_take] at this
theorem el_drop {k : Nat} (ha : Ev ta σ H (.ref lr)) (h : H lr = some (.lst (ads.map V.ref))) (ho : EvO tlo σ H (some (k : Int))) : EvL (tSl (rSlL K) ta tlo tNoPart) σ H ((ads.drop k).map V.ref) := by
  have := el_sl (K := K) ha ho eo_none (sq_of h)
  rwa [cutV_drop, ← List.map_drop] at this
/-- xs + [a new tuple] + ys -/
theorem er_mid (h1 : EvL t1 σ H xs) (h2 : EvU te σ H zs) (h3 : EvL t3 σ H ys) (hl : xs.length + 1 + ys.length ≤ 100000) : EvR (tOp rCat (tOp rCat t1 (tLst (tCons te tNil))) t3) σ H fun v G => ∃ p q, v = .ref p ∧ H p = none ∧ G p = some (.lst (xs ++ [.ref q] ++ ys)) ∧ G q = some (.tup zs) := fun H1 e Q k =>
  h1 H1 e _ fun p1 H2 _ e2 hp1 => (er_lstU (fun G g => h2 G ((e.trans e2).trans g)) : EvR (tLst (tCons te tNil)) σ H2 _) H2 (Ex.refl H2) _ fun v H3 e3 hv => by
    obtain ⟨q, pl, rfl, _, hpl, hq⟩ := hv
    refine ⟨p1, pl, xs, [.ref q], rfl, rfl, e3 _ _ hp1, hpl, sz_of (by rw [List.length_singleton]; omega), fun r hr => ?_⟩
    have e4 : Ex H3 (L2.upd H3 r (.lst (xs ++ [.ref q]))) := Ex.new hr
    refine h3 _ (((e.trans e2).trans e3).trans e4) _ fun p3 H5 _ e5 hp3 => ⟨r, p3, xs ++ [.ref q], ys, rfl, rfl, e5 _ _ upd_same, hp3, sz_of (by rw [List.length_append, List.length_singleton]; omega), fun r2 hr2 => ?_⟩
    have e6 := (((e2.trans e3).trans e4).trans e5)
    exact k _ _ (e6.trans (Ex.new hr2)) ⟨r2, q, rfl, fresh_back (e.trans e6) hr2, upd_same, (Ex.new hr2) _ _ (e5 _ _ (e4 _ _ hq))⟩
theorem ep_refuse (hP : PSt p C CS H a sg c ps) {rs : List RowI} {due : Nat} {tl td : TE} {y : V} (h1 : Ev ta σ H (.ref a)) (h2 : Ev tb σ H y) (h3 : EvR tl σ H fun v G => ∃ ls ads, v = .ref ls ∧ G ls = some (.lst (ads.map V.ref)) ∧ RowsI G ads rs) (h4 : Ev td σ H (.int (due : Int))) (hz : ps.length + rs.length ≤ 40000) (hso : ∀ r ∈ rs, PyData.strOk r.1 = true) (hRef : ∃ ps', RefusedAt p ps ps' rs due) :
    EvP (cells c) (tCall (spRefuses p C CS) [] E (tCons ta (tCons tb (tCons tl (tCons td tNil))))) σ H fun v G => v = .bl true ∧ ∃ ps', PSt p C CS G a sg c ps' ∧ ps'.length ≤ ps.length + rs.length := fun H1 e Q q =>
  h1 H1 e _ fun H2 e2 => h2 H2 (e.trans e2) _ fun H3 e3 => h3 H3 ((e.trans e2).trans e3) _ fun v H4 e4 hv => h4 H4 (((e.trans e2).trans e3).trans e4) _ fun H5 e5 => by
    obtain ⟨ls, ads, rfl, hls, hR⟩ := hv
    obtain ⟨ps', hr⟩ := hRef
    have e15 := (((e.trans e2).trans e3).trans e4).trans e5
    exact ⟨a, sg, ls, y, c, ps, ps', ads, rs, due, rfl, hP.mono e15, e5 _ _ hls, hR.mono e5, hz, hso, hr, fun H6 x6 h6 => q _ H6 (fun b o hb ho => x6 b o hb (((e2.trans e3).trans (e4.trans e5)) _ _ ho)) ⟨rfl, ps', (hP.mono e15).next x6 h6 hr.more.ok, hr.len⟩⟩
theorem EvP.imp {R1 R2 : V → Hp → Prop} (h : EvP F te σ H R1) (hi : ∀ v G, ExB F H G → R1 v G → R2 v G) : EvP F te σ H R2 := fun H1 e Q q => h H1 e Q fun v G x r => q v G x (hi v G (fun b o hb ho => x b o hb (e _ _ ho)) r)
theorem er_L {rs : List RowI} (h : EvL te σ H xs) (hx : xs = ads.map V.ref) (hR : RowsI H ads rs) : EvR te σ H fun v G => ∃ ls ads, v = .ref ls ∧ G ls = some (.lst (ads.map V.ref)) ∧ RowsI G ads rs := fun H1 e Q q => h H1 e _ fun p H2 _ e2 hp => q _ H2 e2 ⟨p, ads, rfl, by rw [hp, hx], hR.mono (e.trans e2)⟩
theorem er_V {rs : List RowI} (h : Ev te σ H (.ref lr)) (hl : H lr = some (.lst (ads.map V.ref))) (hR : RowsI H ads rs) : EvR te σ H fun v G => ∃ ls ads, v = .ref ls ∧ G ls = some (.lst (ads.map V.ref)) ∧ RowsI G ads rs := fun H1 e Q q => h H1 e _ fun H2 e2 => q _ H2 e2 ⟨lr, ads, rfl, e2 _ _ (e _ _ hl), hR.mono (e.trans e2)⟩
theorem eu_catVU {q : Addr} (ha : Ev ta σ H (.ref q)) (h : H q = some (.tup xs)) (hb : EvU tb σ H ys) (hx : xs ≠ []) (hy : ys ≠ []) (hl : xs.length + ys.length ≤ 100000) : EvU (tOp (rCatT K) ta tb) σ H (xs ++ ys) := fun H1 e Q k =>
  ha H1 e _ fun H2 e2 => hb H2 (e.trans e2) _ fun pp H3 hp e3 h3 => ⟨q, pp, xs, ys, rfl, rfl, st_of (e3 _ _ (e2 _ _ (e _ _ h))), st_of h3, hx, sz_of hl, fun z => absurd z hy, fun _ l hl => k l _ (fresh_back (e2.trans e3) hl) ((e2.trans e3).trans (Ex.new hl)) upd_same⟩
def spSpoils (p : Par) (C CS : Addr) : Sp := fun vs H Q _ => ∃ (d a sg lr : Addr) (c : Ce) (ps : List Pth) (ads : List Addr) (bs : Pth), vs = [.ref d, .ref a, .ref lr, .str p.one, .str p.many, .int (p.ar : Int)] ∧ Dr H d ∧ PSt p C CS (hide H d) a sg c ps ∧ (hide H d) lr = some (.lst (ads.map V.ref)) ∧ RowsT (hide H d) ads (rowsOf p bs) ∧ lr ∉ cells c ∧ bs.length ≤ 900 ∧ ps.length ≤ 20000 ∧ ∀ H', Q (.bl true) H'
theorem scSp : FnScope ["draws", "terms", "rows", "one", "many", "arity", "place", "row", "k", "late", "below", "long", "strange"] ["draws", "terms", "rows", "one", "many", "arity"] (defScope (topS 38)) := ⟨rfl, rfl, rfl, by decide +kernel, rfl, by decide +kernel, by decide +kernel⟩
theorem ok_spoils (hp : ParOk p) {f ft fr : Addr} {fd fdt fdr : FuncData} (D : DefAt K mg 38 "_law_spoils" ["draws", "terms", "rows", "one", "many", "arity"] f fd) (T : TakeAt P w K mg base ft fdt) (RF : GenAt P w K mg base 9 "_law_refuses" ["terms", "rows", "spoilt", "due"] (spRefuses p C CS) fr fdr) (N : Nm mg) (M : NmS mg) : FnOk P w K mg base CX0 10 f fd ["draws", "terms", "rows", "one", "many", "arity"] (spSpoils p C CS) := by
  refine D.F.ok scSp (fun vs H Q E h => ?_) (fun cdv A outer s H vs Q E hr h => ?_)
  · obtain ⟨d, a, sg, lr, c, ps, ads, bs, rfl, _⟩ := h
    rfl
  · obtain ⟨d, a, sg, lr, c, ps, ads, bs, rfl, hd, hP, hlr, hR, nlr, hz, hz2, k⟩ := h
    have s0 := Sd.of hd
    refine ⟨_, (pss_cons (ps_asg (pe_op op_modN (pe_call T.F (hr.mono (by decide)) (by rfl) T.g T.kp T.b .nil pass0 (pa_cons (pv 0) (pa_cons pe_int pa_nil))) (pe_callB (r := rLenS K) call_len_seq (by rfl) N.len PySem.boot_len (pa_cons (pv 2) pa_nil))) (pg_name (i := 6) scSp.nd rfl (.inr rfl))) (pss_cons (ps_if (pt_not (pt_val (pe_call RF.F (hr.mono (by decide)) (by rfl) RF.g RF.kp RF.b .nil pass0 (pa_cons (pv 1) (pa_cons (pv 2) (pa_cons (pe_op (r := rCat) op_cat (pe_op (r := rCat) op_cat (pe_slice (r := rSlL K) sl_list (pv 2) po_none (po_some (pe_op op_add (pv 6) pe_int))) (pe_lst (pa_cons (pe_ix (r := rIxL K) ix_list (pv 2) (pv 6) (fun _ _ => rfl)) pa_nil))) (pe_slice (r := rSlL K) sl_list (pv 2) (po_some (pe_op op_add (pv 6) pe_int)) po_none)) (pa_cons (pe_op op_add (pv 6) pe_int) pa_nil))))))) (pss_one (ps_ret pe_bl)) pss_nil) (pss_cons (ps_if (PW.pt (pw_or (pt_not (pt_val (pe_call RF.F (hr.mono (by decide)) (by rfl) RF.g RF.kp RF.b .nil pass0 (pa_cons (pv 1) (pa_cons (pv 2) (pa_cons (pe_op (r := rCat) op_cat (pv 2) (pe_lst (pa_cons (pe_ix (r := rIxL K) ix_list (pv 2) pe_int (fun _ _ => rfl)) pa_nil))) (pa_cons pe_int pa_nil))))))) (pw_or1 (pt_not (pt_val (pe_call RF.F (hr.mono (by decide)) (by rfl) RF.g RF.kp RF.b .nil pass0 (pa_cons (pv 1) (pa_cons (pv 2) (pa_cons (pe_lst pa_nil) (pa_cons pe_int pa_nil)))))))))) (pss_one (ps_ret pe_bl)) pss_nil) (pss_cons (ps_asg (pe_ix (r := rIxL K) ix_list (pv 2) (pv 6) (fun _ _ => rfl)) (pg_name (i := 7) scSp.nd rfl (.inl rfl))) (pss_cut (ps_if (pt_cmpR op_gt (pe_callB (r := rLenS K) call_len_seq (by rfl) N.len PySem.boot_len (pa_cons (pv 7) pa_nil)) pe_int (nomark _)) (pss_cons (ps_asg (pe_op (r := rCat) op_cat (pe_op (r := rCat) op_cat (pe_slice (r := rSlL K) sl_list (pv 2) po_none (po_some (pv 6))) (pe_lst (pa_cons (pe_callTy (T := "tuple") (call_tupK (K := K) rfl) (by rfl) M.tuple (by decide +kernel) (pa_cons (pe_op (r := rCat) op_cat (pe_lst (pa_cons (pe_ix (r := rIxT K) ix_tup (pv 7) pe_int (fun _ _ => rfl)) pa_nil)) (pe_lc (own := [("k", 8)]) (g := gName 8) rfl scSp.nd (pi_seq (pe_slice (r := rSlT K) sl_tup (pv 7) (po_some pe_int) po_none)) (blkOk_by (own := [("k", 8)]) (N := ["draws", "terms", "rows", "one", "many", "arity", "place", "row", "k", "late", "below", "long", "strange"]) (sc := defScope (topS 38)) (by decide +kernel)) (fun _ _ _ _ _ => pg_name (i := 8) scSp.nd rfl (.inl rfl) (hf := .inr rfl)) (fun _ _ _ _ _ => pts_nil) (fun _ _ _ _ _ => (pv 6)))) pa_nil)) pa_nil))) (pe_slice (r := rSlL K) sl_list (pv 2) (po_some (pe_op op_add (pv 6) pe_int)) po_none)) (pg_name (i := 9) scSp.nd rfl (.inl rfl))) (pss_cons (ps_asg (pe_op (r := rCat) op_cat (pe_op (r := rCat) op_cat (pe_slice (r := rSlL K) sl_list (pv 2) po_none (po_some (pv 6))) (pe_lst (pa_cons (pe_callTy (T := "tuple") (call_tupK (K := K) rfl) (by rfl) M.tuple (by decide +kernel) (pa_cons (pe_op (r := rCat) op_cat (pe_lst (pa_cons (pe_ix (r := rIxT K) ix_tup (pv 7) pe_int (fun _ _ => rfl)) pa_nil)) (pe_lc (own := [("k", 8)]) (g := gName 8) rfl scSp.nd (pi_seq (pe_slice (r := rSlT K) sl_tup (pv 7) (po_some pe_int) po_none)) (blkOk_by (own := [("k", 8)]) (N := ["draws", "terms", "rows", "one", "many", "arity", "place", "row", "k", "late", "below", "long", "strange"]) (sc := defScope (topS 38)) (by decide +kernel)) (fun _ _ _ _ _ => pg_name (i := 8) scSp.nd rfl (.inl rfl) (hf := .inr rfl)) (fun _ _ _ _ _ => pts_nil) (fun _ _ _ _ _ => (pe_un un_neg pe_int)))) pa_nil)) pa_nil))) (pe_slice (r := rSlL K) sl_list (pv 2) (po_some (pe_op op_add (pv 6) pe_int)) po_none)) (pg_name (i := 10) scSp.nd rfl (.inl rfl))) (pss_one (ps_if (PW.pt (pw_or (pt_not (pt_val (pe_call RF.F (hr.mono (by decide)) (by rfl) RF.g RF.kp RF.b .nil pass0 (pa_cons (pv 1) (pa_cons (pv 2) (pa_cons (pv 9) (pa_cons (pv 6) pa_nil))))))) (pw_or1 (pt_not (pt_val (pe_call RF.F (hr.mono (by decide)) (by rfl) RF.g RF.kp RF.b .nil pass0 (pa_cons (pv 1) (pa_cons (pv 2) (pa_cons (pv 10) (pa_cons (pv 6) pa_nil)))))))))) (pss_one (ps_ret pe_bl)) pss_nil)))) pss_nil) (pss_cons (ps_asg (pe_op (r := rCat) op_cat (pe_op (r := rCat) op_cat (pe_slice (r := rSlL K) sl_list (pv 2) po_none (po_some (pv 6))) (pe_lst (pa_cons (pe_op (r := rCatT K) op_catT (pv 7) (pe_tup (pa_cons pe_int pa_nil))) pa_nil))) (pe_slice (r := rSlL K) sl_list (pv 2) (po_some (pe_op op_add (pv 6) pe_int)) po_none)) (pg_name (i := 11) scSp.nd rfl (.inl rfl))) (pss_cons (ps_asg (pe_op (r := rCat) op_cat (pe_op (r := rCat) op_cat (pe_slice (r := rSlL K) sl_list (pv 2) po_none (po_some (pv 6))) (pe_lst (pa_cons (pe_op (r := rCatT K) op_catT (pe_tup (pa_cons pe_str pa_nil)) (pe_slice (r := rSlT K) sl_tup (pv 7) (po_some pe_int) po_none)) pa_nil))) (pe_slice (r := rSlL K) sl_list (pv 2) (po_some (pe_op op_add (pv 6) pe_int)) po_none)) (pg_name (i := 12) scSp.nd rfl (.inl rfl))) (pss_one (ps_ret (pe_and (pe_call RF.F (hr.mono (by decide)) (by rfl) RF.g RF.kp RF.b .nil pass0 (pa_cons (pv 1) (pa_cons (pv 2) (pa_cons (pv 11) (pa_cons (pv 6) pa_nil))))) (pe_one (pe_call RF.F (hr.mono (by decide)) (by rfl) RF.g RF.kp RF.b .nil pass0 (pa_cons (pv 1) (pa_cons (pv 2) (pa_cons (pv 12) (pa_cons (pv 6) pa_nil)))))))))))))))), ?_⟩
    have hal : ads.length = bs.length + 1 := by rw [hR.len, rows_len]
    refine gq_asg (B := hide H d) (d := d) (R := fun v _ => ∃ n : Nat, v = .int (n : Int) ∧ n < bs.length + 1) (eg_opW (y := .int ((bs.length + 1 : Nat) : Int)) (Rb := fun v _ => ∃ n : Nat, v = .int (n : Int) ∧ (n : Int) < 997) (eg_takeN (m := 997) (ev_var rfl) ev_c (by decide)) (fun u B1 e1 _ => ev_is (ev_len (ev_var rfl) (sq_of (e1 _ _ hlr))) (by rw [List.length_map, hal])) fun u B1 e1 hu => ?_) s0 fun v B1 H1 e1 s1 hv => ?_
    · obtain ⟨n, rfl, _⟩ := hu
      have hm := mod_range (a := (n : Int)) (m := ((bs.length + 1 : Nat) : Int)) (by omega)
      refine ⟨_, rv_I (show ((bs.length + 1 : Nat) : Int) ≠ 0 by omega), ((n : Int).fmod ((bs.length + 1 : Nat) : Int)).toNat, ?_, by omega⟩
      congr 1
      omega
    · obtain ⟨pl, rfl, hpl⟩ := hv
      have e01 : Ex (hide H d) H1 := e1.trans s1.ex
      have hP1 := hP.mono e01
      have hlr1 := e01 _ _ hlr
      have hR1 := hR.mono e01
      have hRI := hR1.toI
      obtain ⟨r, hrr⟩ : ∃ r, (rowsOf p bs)[pl]? = some r := ⟨_, List.getElem?_eq_getElem (by rw [rows_len]; exact hpl)⟩
      obtain ⟨rq, hrq⟩ : ∃ rq, ads[pl]? = some rq := ⟨_, List.getElem?_eq_getElem (by omega)⟩
      have hrt1 := hR1.at_ pl rq r hrq hrr
      have sok : ∀ r ∈ (rowsOf p bs).map toI, PyData.strOk r.1 = true := fun r hr => by
        obtain ⟨r', hr', rfl⟩ := List.mem_map.mp hr
        exact rows_str hp hr'
      -- what stays while the store moves on
      let Stay := fun (n : Nat) (G : Hp) => ∃ ps', PSt p C CS G a sg c ps' ∧ ps'.length ≤ ps.length + n * 1000 ∧ G lr = some (.lst (ads.map V.ref)) ∧ RowsI G ads ((rowsOf p bs).map toI)
      have st1 : Stay 0 H1 := ⟨ps, hP1, by omega, hlr1, hRI⟩
      have move : ∀ {n : Nat} {G G2 : Hp} {ps1 : List Pth} {m : Nat}, PSt p C CS G a sg c ps1 → ps1.length ≤ ps.length + n * 1000 → G lr = some (.lst (ads.map V.ref)) → RowsI G ads ((rowsOf p bs).map toI) → ExB (cells c) G G2 → m ≤ 1000 → (∃ ps', PSt p C CS G2 a sg c ps' ∧ ps'.length ≤ ps1.length + m) → Stay (n + 1) G2 := by
        intro n G G2 ps1 m h1 h2 h3 h4 x hm h5
        obtain ⟨ps', q1, q2⟩ := h5
        exact ⟨ps', q1, by omega, x _ _ nlr h3, h4.keep h1.st x⟩
      have hN : ∀ {n : Nat} {ps1 : List Pth}, ps1.length ≤ ps.length + n * 1000 → n ≤ 8 → ps1.length + bs.length + 5 ≤ 40000 := fun h1 h2 => by omega
      have hadd : ∀ {G : Hp} {σ : L2.St}, σ[6]? = some (some (.int (pl : Int))) → Ev (tOp (rI0 fun i j => .int (i + j)) (tVar 6) (tC (.int 1))) σ G (.int ((pl + 1 : Nat) : Int)) := fun h6 => ev_is (ev_op (ev_var h6) ev_c rv_I0) rfl
      have hix : ∀ {G : Hp} {σ : L2.St}, G lr = some (.lst (ads.map V.ref)) → σ[2]? = some (some (.ref lr)) → σ[6]? = some (some (.int (pl : Int))) → Ev (tOp (rIxL K) (tVar 2) (tVar 6)) σ G (.ref rq) := fun hG h2 h6 => ev_op (ev_var h2) (ev_var h6) (rv_ixL (sq_of hG) (atI_nat (by rw [List.getElem?_map, hrq]; rfl)))
      have hplad : pl < ads.length := by omega
      -- one row twice
      refine q_whenP (F := cells c) (R := Stay 1) (etp_not (b := true) (etp_B ?_)) fun H2 x2 st2 => ?_
      · refine (ep_refuse hP1 (rs := ((rowsOf p bs).map toI).take (pl + 1) ++ [toI r] ++ ((rowsOf p bs).map toI).drop (pl + 1)) (ev_var rfl) (ev_var rfl) (er_L (ads := ads.take (pl + 1) ++ [rq] ++ ads.drop (pl + 1)) (el_catLL (el_catLL (el_take (ev_var rfl) hlr1 (eo_some (hadd rfl)) (by omega)) (fun G g => el_lst (ea_cons (hix (g _ _ hlr1) rfl rfl) ea_nil) (by simp)) (by simp; omega)) (fun G g => el_drop (ev_var rfl) (g _ _ hlr1) (eo_some (hadd rfl))) (by simp; omega)) (by simp) (((hRI.take (pl + 1)).app (.one (by rw [row_toI]; exact hrt1))).app (hRI.drop (pl + 1)))) (hadd rfl) (by simp [rows_len]; omega) (fun x hx => ?_) ?_).imp fun v G x rr => ⟨rr.1, move (n := 0) (m := 1000) hP1 (by omega) hlr1 hRI x (Nat.le_refl _) ?_⟩
        · rcases List.mem_append.mp hx with hx | hx
          · rcases List.mem_append.mp hx with hx | hx
            · exact sok x (List.mem_of_mem_take hx)
            · rw [List.mem_singleton.mp hx]
              exact rows_str hp (List.mem_of_getElem? hrr)
          · exact sok x (List.mem_of_mem_drop hx)
        · obtain ⟨ps', hps'⟩ := bad_double hp hP1.ok (by omega) (hN (n := 0) (by omega) (by decide)) hpl hrr
          refine ⟨ps', ?_⟩
          rw [List.map_append, List.map_append, List.map_take, List.map_drop] at hps'
          exact hps'
        · obtain ⟨ps', q1, q2⟩ := rr.2
          refine ⟨ps', q1, ?_⟩
          have : (((rowsOf p bs).map toI).take (pl + 1) ++ [toI r] ++ ((rowsOf p bs).map toI).drop (pl + 1)).length ≤ 1000 := by simp [rows_len]; omega
          omega
      obtain ⟨ps2, hP2, hl2, hlr2, hR2⟩ := st2
      have q0 : ∃ q0, ads[0]? = some q0 := ⟨_, List.getElem?_eq_getElem (by omega)⟩
      obtain ⟨q0, hq0⟩ := q0
      -- the first row once more; no rows
      refine q_whenP (F := cells c) (R := Stay 3) (etp_or (R := Stay 2) (etp_not (b := true) (etp_B ?_)) fun H3 x3 st3 => etp_not (b := true) (etp_B ?_)) fun H4 x4 st4 => ?_
      · have hr0 := hR2.at_ 0 q0 (toI (p.lt, [])) hq0 (by rw [List.getElem?_map, rows_zero]; rfl)
        refine (ep_refuse hP2 (rs := (rowsOf p bs).map toI ++ [toI (p.lt, [])]) (due := 1) (ev_var rfl) (ev_var rfl) (er_L (ads := ads ++ [q0]) (el_catVL2 (ev_var rfl) hlr2 (fun G g => el_lst (ea_cons (ev_op (ev_var rfl) ev_c (rv_ixL (v := .ref q0) (sq_of (g _ _ hlr2)) (atI_nat (j := 0) (by rw [List.getElem?_map, hq0]; rfl)))) ea_nil) (by simp)) (by simp; omega)) (by simp) (hR2.app (.one hr0))) ev_c (by simp [rows_len]; omega) (fun x hx => ?_) ?_).imp fun v G x rr => ⟨rr.1, move (n := 1) (m := 1000) hP2 hl2 hlr2 hR2 x (Nat.le_refl _) ?_⟩
        · rcases List.mem_append.mp hx with hx | hx
          · exact sok x hx
          · rw [List.mem_singleton.mp hx]
            exact let_ok hp.let_
        · obtain ⟨ps', hps'⟩ := bad_more hp hP2.ok (bs := bs) (by omega) (hN hl2 (by decide))
          refine ⟨ps', ?_⟩
          rw [List.map_append] at hps'
          exact hps'
        · obtain ⟨ps', q1, q2⟩ := rr.2
          refine ⟨ps', q1, ?_⟩
          have : ((rowsOf p bs).map toI ++ [toI (p.lt, [])]).length ≤ 1000 := by simp [rows_len]; omega
          omega
      · obtain ⟨ps3, hP3, hl3, hlr3, hR3⟩ := st3
        refine (ep_refuse hP3 (rs := []) (due := 0) (ev_var rfl) (ev_var rfl) (er_L (ads := []) (el_lst ea_nil (by decide)) rfl ⟨rfl, fun i q r z => by cases z⟩) ev_c (by simp; omega) (fun x hx => by cases hx) (bad_none hp hP3.ok)).imp fun v G x rr => ⟨rr.1, move (n := 2) (m := 0) hP3 hl3 hlr3 hR3 x (by decide) rr.2⟩
      obtain ⟨ps4, hP4, hl4, hlr4, hR4⟩ := st4
      refine q_asg (hix hlr4 rfl rfl) fun H5 e5 => ?_
      have hP5 := hP4.mono e5
      have hlr5 := e5 _ _ hlr4
      have hR5 := hR4.mono e5
      have hrt5 := hR5.at_ pl rq (toI r) hrq (by rw [List.getElem?_map, hrr]; rfl)
      rw [row_toI] at hrt5
      have hrV : (rowV r).length = r.2.length + 1 := by unfold rowV; simp
      -- the row with its parts changed
      refine q_cut (M := fun σ H' => ∃ u8 u9 u10, σ = [some (.ref d), some (.ref a), some (.ref lr), some (.str p.one), some (.str p.many), some (.int (p.ar : Int)), some (.int (pl : Int)), some (.ref rq), u8, u9, u10, none, none] ∧ Stay 5 H') ?_ fun σ H6 st6 => ?_
      · have ttest : EvT (tTest (tOp (rI0 fun i j => .bl (decide (i > j))) (tCB (rLenS K) (tCons (tVar 7) tNil)) (tC (.int 1)))) [some (.ref d), some (.ref a), some (.ref lr), some (.str p.one), some (.str p.many), some (.int (p.ar : Int)), some (.int (pl : Int)), some (.ref rq), none, none, none, none, none] H5 (decide (r.2 ≠ [])) := by
          refine et_is (et_test (ev_op (ev_lenT2 (ev_var rfl) hrt5) ev_c rv_I0)) ?_
          rw [hrV]
          refine decide_eq_decide.mpr ⟨fun z e => by rw [e] at z; simp at z, fun z => ?_⟩
          have := List.length_pos_iff.mpr z
          omega
        by_cases hr2 : r.2 = []
        · exact s_when (b := false) (et_is ttest (by simp [hr2])) (fun z => by cases z) (fun _ H6 e6 => ⟨none, none, none, rfl, ps4, hP5.mono e6, by omega, e6 _ _ hlr5, hR5.mono e6⟩)
        · refine s_when (b := true) (et_is ttest (by simp [hr2])) (fun _ H6 e6 => ?_) (fun z => by cases z)
          obtain ⟨b, j, rfl⟩ : ∃ b j, r = (p.wd b, List.replicate (p.a1 b) j) := by
            rcases rows_mem (List.mem_of_getElem? hrr) with rfl | ⟨j, b, _, rfl⟩
            · exact absurd rfl hr2
            · exact ⟨b, j, rfl⟩
          have haw := hp.aw b
          have hw : PyData.strOk (p.wd b) = true := by cases b <;> first | exact hp.s1 | exact hp.s2
          have hrow : ∀ {G : Hp} {z : Int} {te : TE} {σ : L2.St} {u8 : Option V}, Ex H6 G → σ = [some (.ref d), some (.ref a), some (.ref lr), some (.str p.one), some (.str p.many), some (.int (p.ar : Int)), some (.int (pl : Int)), some (.ref rq), u8, σ.getD 9 none, σ.getD 10 none, σ.getD 11 none, σ.getD 12 none] → (∀ (G2 : Hp) (x : V), Ev te ((wipe σ [8]).set 8 (some x)) G2 (.int z)) → EvU (tCB (rTupSq K) (tCons (tOp rCat (tLst (tCons (tOp (rIxT K) (tVar 7) (tC (.int 0))) tNil)) (tLc (iSeq K (tSl (rSlT K) (tVar 7) (tPart (tC (.int 1))) tNoPart)) (gName 8) tYes te [8])) tNil)) σ G (rowI (p.wd b, List.replicate (p.a1 b) z)) := by
            intro G z te σ u8 eG hσ hte
            have h7 : σ[7]? = some (some (.ref rq)) := by rw [hσ]; rfl
            have hrtG := eG _ _ (e6 _ _ hrt5)
            refine eu_tupN (el_catLL (xs := [.str (p.wd b)]) (ys := (List.replicate (p.a1 b) z).map V.int) (el_lst (ea_cons (ev_op (ev_var h7) ev_c (rv_ixT (st_of hrtG) (atI_nat (j := 0) rfl))) ea_nil) (by simp)) (fun G2 g2 => ?_) (by simp; omega))
            have h0 := el_lcUM (K := K) (te := te) (j := 8) (vs := [8]) (xs := nV (List.replicate (p.a1 b) j)) (List.replicate (p.a1 b) j) (fun _ => V.int z) (eu_row1 (K := K) (tt := tVar 7) (σ := σ) (ev_var h7) (g2 _ _ hrtG)) (by simp) (by simp; omega) (fun x => by rw [hσ]; rfl) (fun i x r G4 g4 hx hr => hte G4 x)
            rw [List.map_replicate] at h0
            rw [List.map_replicate]
            exact h0
          refine q_asgR (er_mid (el_take (ev_var rfl) (e6 _ _ hlr5) (eo_some (ev_var rfl)) (by omega)) (hrow (z := (pl : Int)) (Ex.refl H6) rfl (fun G2 x => ev_var rfl)) (el_drop (ev_var rfl) (e6 _ _ hlr5) (eo_some (hadd rfl))) (by simp; omega)) fun v H7 e7 hv => ?_
          obtain ⟨p1, t1, rfl, np1, hp1, ht1⟩ := hv
          refine q_asgR (er_mid (el_take (ev_var rfl) (e7 _ _ (e6 _ _ hlr5)) (eo_some (ev_var rfl)) (by omega)) (hrow (z := -1) e7 rfl (fun G2 x => ev_un ev_c ru_neg)) (el_drop (ev_var rfl) (e7 _ _ (e6 _ _ hlr5)) (eo_some (hadd rfl))) (by simp; omega)) fun v H8 e8 hv => ?_
          obtain ⟨p2, t2, rfl, np2, hp2, ht2⟩ := hv
          have e68 := e7.trans e8
          have hP8 := (hP5.mono e6).mono e68
          have hlr8 := e68 _ _ (e6 _ _ hlr5)
          have hR8 := (hR5.mono e6).mono e68
          have mid : ∀ {G : Hp} {q : Addr} {z : Int}, RowsI G ads ((rowsOf p bs).map toI) → G q = some (.tup (rowI (p.wd b, List.replicate (p.a1 b) z))) → RowsI G (ads.take pl ++ [q] ++ ads.drop (pl + 1)) (((rowsOf p bs).take pl).map toI ++ (p.wd b, List.replicate (p.a1 b) z) :: ((rowsOf p bs).drop (pl + 1)).map toI) := fun hG hq => by
            have := ((hG.take pl).app (.one hq)).app (hG.drop (pl + 1))
            rw [← List.map_take, ← List.map_drop, List.append_assoc (((rowsOf p bs).take pl).map toI)] at this
            exact this
          have midS : ∀ {z : Int}, ∀ x ∈ ((rowsOf p bs).take pl).map toI ++ (p.wd b, List.replicate (p.a1 b) z) :: ((rowsOf p bs).drop (pl + 1)).map toI, PyData.strOk x.1 = true := fun x hx => by
            rcases List.mem_append.mp hx with hx | hx
            · rw [List.map_take] at hx
              exact sok x (List.mem_of_mem_take hx)
            · rcases List.mem_cons.mp hx with rfl | hx
              · exact hw
              · rw [List.map_drop] at hx
                exact sok x (List.mem_of_mem_drop hx)
          have midL : ∀ {z : Int}, (((rowsOf p bs).take pl).map toI ++ (p.wd b, List.replicate (p.a1 b) z) :: ((rowsOf p bs).drop (pl + 1)).map toI).length = bs.length + 1 := fun {z} => by
            rw [List.length_append, List.length_map, List.length_take, List.length_cons, List.length_map, List.length_drop, rows_len]
            omega
          have nc2 : p2 ∉ cells c := fresh_nin ((hP5.mono e6).mono e7).st np2
          refine s_whenP (F := cells c) (R := Stay 5) (etp_or (R := fun G => Stay 4 G ∧ G p2 = some (.lst ((ads.take pl ++ [t2] ++ ads.drop (pl + 1)).map V.ref)) ∧ G t2 = some (.tup (rowI (p.wd b, List.replicate (p.a1 b) (-1))))) (etp_not (b := true) (etp_B ?_)) fun H9 x9 st9 => etp_not (b := true) (etp_B ?_)) fun H10 x10 st10 => ⟨_, _, _, rfl, st10⟩
          · refine (ep_refuse hP8 (due := pl) (ev_var rfl) (ev_var rfl) (er_V (lr := p1) (ads := ads.take pl ++ [t1] ++ ads.drop (pl + 1)) (ev_var rfl) (by rw [e8 _ _ hp1]; simp) (mid hR8 (e8 _ _ ht1))) (ev_var rfl) (by rw [midL]; omega) midS (bad_parts hp hP8.ok hpl (hN hl4 (by decide)) _ (by omega))).imp fun v G x rr => ⟨rr.1, move (n := 3) (m := 1000) hP8 hl4 hlr8 hR8 x (Nat.le_refl _) ?_, ?_, ?_⟩
            · obtain ⟨ps', q1, q2⟩ := rr.2
              rw [midL] at q2
              exact ⟨ps', q1, by omega⟩
            · rw [x _ _ nc2 hp2]
              simp
            · exact x _ _ (nin_tup hP8.st ht2) ht2
          · obtain ⟨⟨ps9, hP9, hl9, hlr9, hR9⟩, hp29, ht29⟩ := st9
            refine (ep_refuse hP9 (due := pl) (ev_var rfl) (ev_var rfl) (er_V (lr := p2) (ads := ads.take pl ++ [t2] ++ ads.drop (pl + 1)) (ev_var rfl) hp29 (mid hR9 ht29)) (ev_var rfl) (by rw [midL]; omega) midS (bad_parts hp hP9.ok hpl (hN hl9 (by decide)) _ (by omega))).imp fun v G x rr => ⟨rr.1, move (n := 4) (m := 1000) hP9 hl9 hlr9 hR9 x (Nat.le_refl _) ?_⟩
            obtain ⟨ps', q1, q2⟩ := rr.2
            rw [midL] at q2
            exact ⟨ps', q1, by omega⟩
      · obtain ⟨u8, u9, u10, rfl, ps6, hP6, hl6, hlr6, hR6⟩ := st6
        have hrt6 := hR6.at_ pl rq (toI r) hrq (by rw [List.getElem?_map, hrr]; rfl)
        rw [row_toI] at hrt6
        have rwl : r.2.length ≤ 4 := by
          rcases rows_mem (List.mem_of_getElem? hrr) with rfl | ⟨j, b, _, rfl⟩
          · exact Nat.zero_le _
          · have := hp.aw b
            simp
            omega
        have el : rowV r ++ [.int 0] = rowI (r.1, (toI r).2 ++ [0]) := by
          unfold rowV rowI toI nV
          simp [List.map_append, List.map_map]
        have es : V.str "none0" :: nV r.2 = rowI ("none0", (toI r).2) := by
          unfold rowI toI nV
          simp [List.map_map]
        refine q_asgR (er_mid (el_take (ev_var rfl) hlr6 (eo_some (ev_var rfl)) (by omega)) (eu_catVU (xs := rowV r) (ys := [.int 0]) (ev_var rfl) hrt6 (eu_tup (ea_cons ev_c ea_nil) (by simp)) (by simp [rowV]) (by simp) (by rw [hrV]; simp; omega)) (el_drop (ev_var rfl) hlr6 (eo_some (hadd rfl))) (by simp; omega)) fun v H7 e7 hv => ?_
        obtain ⟨p1, t1, rfl, np1, hp1, ht1⟩ := hv
        refine q_asgR (er_mid (el_take (ev_var rfl) (e7 _ _ hlr6) (eo_some (ev_var rfl)) (by omega)) (eu_cat (xs := [.str "none0"]) (ys := nV r.2) (eu_tup (ea_cons ev_c ea_nil) (by simp)) (fun G g => eu_row1 (ev_var rfl) (g _ _ (e7 _ _ hrt6))) (by simp) (by simp; omega)) (el_drop (ev_var rfl) (e7 _ _ hlr6) (eo_some (hadd rfl))) (by simp; omega)) fun v H8 e8 hv => ?_
        obtain ⟨p2, t2, rfl, np2, hp2, ht2⟩ := hv
        rw [el] at ht1
        have ht2 : H8 t2 = some (.tup (rowI ("none0", (toI r).2))) := by rw [ht2]; exact congrArg (fun l => some (HO.tup l)) es
        have e68 := e7.trans e8
        have hP8 := hP6.mono e68
        have hlr8 := e68 _ _ hlr6
        have hR8 := hR6.mono e68
        have mid : ∀ {G : Hp} {q : Addr} {z : RowI}, RowsI G ads ((rowsOf p bs).map toI) → G q = some (.tup (rowI z)) → RowsI G (ads.take pl ++ [q] ++ ads.drop (pl + 1)) (((rowsOf p bs).take pl).map toI ++ z :: ((rowsOf p bs).drop (pl + 1)).map toI) := fun hG hq => by
          have := ((hG.take pl).app (.one hq)).app (hG.drop (pl + 1))
          rw [← List.map_take, ← List.map_drop, List.append_assoc (((rowsOf p bs).take pl).map toI)] at this
          exact this
        have midS : ∀ {z : RowI}, PyData.strOk z.1 = true → ∀ x ∈ ((rowsOf p bs).take pl).map toI ++ z :: ((rowsOf p bs).drop (pl + 1)).map toI, PyData.strOk x.1 = true := fun hz x hx => by
          rcases List.mem_append.mp hx with hx | hx
          · rw [List.map_take] at hx
            exact sok x (List.mem_of_mem_take hx)
          · rcases List.mem_cons.mp hx with rfl | hx
            · exact hz
            · rw [List.map_drop] at hx
              exact sok x (List.mem_of_mem_drop hx)
        have midL : ∀ {z : RowI}, (((rowsOf p bs).take pl).map toI ++ z :: ((rowsOf p bs).drop (pl + 1)).map toI).length = bs.length + 1 := fun {z} => by
          rw [List.length_append, List.length_map, List.length_take, List.length_cons, List.length_map, List.length_drop, rows_len]
          omega
        have nc2 : p2 ∉ cells c := fresh_nin (hP6.mono e7).st np2
        refine s_retP (F := cells c) (evp_and (R := fun G => Stay 6 G ∧ G p2 = some (.lst ((ads.take pl ++ [t2] ++ ads.drop (pl + 1)).map V.ref)) ∧ G t2 = some (.tup (rowI ("none0", (toI r).2)))) (R' := Stay 7) ?_ fun H9 x9 st9 => ?_) fun v H10 x10 hv => by
          rw [hv.1]
          exact k H10
        · refine (ep_refuse hP8 (due := pl) (ev_var rfl) (ev_var rfl) (er_V (lr := p1) (ads := ads.take pl ++ [t1] ++ ads.drop (pl + 1)) (ev_var rfl) (by rw [e8 _ _ hp1]; simp) (mid hR8 (e8 _ _ ht1))) (ev_var rfl) (by rw [midL]; omega) (midS (rows_str hp (List.mem_of_getElem? hrr))) (bad_long hp hP8.ok hpl (hN hl6 (by decide)) _ hrr)).imp fun v G x rr => ⟨rr.1, move (n := 5) (m := 1000) hP8 hl6 hlr8 hR8 x (Nat.le_refl _) ?_, ?_, ?_⟩
          · obtain ⟨ps', q1, q2⟩ := rr.2
            rw [midL] at q2
            exact ⟨ps', q1, by omega⟩
          · rw [x _ _ nc2 hp2]
            simp
          · exact x _ _ (nin_tup hP8.st ht2) ht2
        · obtain ⟨⟨ps9, hP9, hl9, hlr9, hR9⟩, hp29, ht29⟩ := st9
          refine (ep_refuse hP9 (due := pl) (ev_var rfl) (ev_var rfl) (er_V (lr := p2) (ads := ads.take pl ++ [t2] ++ ads.drop (pl + 1)) (ev_var rfl) hp29 (mid hR9 ht29)) (ev_var rfl) (by rw [midL]; omega) (midS (show PyData.strOk ("none0" : Str) = true by decide +kernel)) (bad_strange hp hP9.ok hpl (hN hl9 (by decide)) _ _)).imp fun v G x rr => ⟨rr.1, move (n := 6) (m := 1000) hP9 hl9 hlr9 hR9 x (Nat.le_refl _) ?_⟩
          obtain ⟨ps', q1, q2⟩ := rr.2
          rw [midL] at q2
          exact ⟨ps', q1, by omega⟩
end
end K87
-- B8
namespace K87
open PySem PySem.Spec PyProof.Rows L2 Evl KEv TL KDd KSq KSame KTxt KNew KRvT KD
/-! what the law itself needs: stores and rows while something else changes -/
theorem hide_mono {H H' : Hp} {d : Addr} (e : Ex H H') : Ex (hide H d) (hide H' d) := fun b o h => by
  have hb : b ≠ d := fun z => by rw [z, hide_at] at h; cases h
  rw [hide_ne hb] at h ⊢
  exact e _ _ h
theorem hide_monoB {F : List Addr} {H H' : Hp} {d : Addr} (x : ExB F H H') : ExB F (hide H d) (hide H' d) := fun b o n h => by
  have hb : b ≠ d := fun z => by rw [z, hide_at] at h; cases h
  rw [hide_ne hb] at h ⊢
  exact x _ _ n h
/-- cells hold lists and dicts of tuple keys -/
def LD (F : List Addr) (H : Hp) : Prop := ∀ b ∈ F, ∀ o, H b = some o → (∃ xs, o = .lst xs) ∨ ∃ m, o = .dT m
def Plain (o : HO) : Prop := (∀ xs, o ≠ .lst xs) ∧ ∀ m, o ≠ .dT m
theorem StoreAt.nl {C a sg : Addr} {c : Ce} {tx : List (Key × V)} {st : List Nd} {H H' : Hp} (h : StoreAt C H a sg c tx st) (k : ∀ b o, H b = some o → (b ∉ cells c → Plain o) → H' b = some o) : StoreAt C H' a sg c tx st := by
  have kc : ∀ {b o}, b ∈ cells c → H b = some o → H' b = some o := fun hb ho => k _ _ ho fun z => absurd hb z
  have kn : ∀ {b o}, H b = some o → Plain o → H' b = some o := fun ho h1 => k _ _ ho fun _ => h1
  obtain ⟨dx, fs, a1, a2⟩ := h.at_
  obtain ⟨dx', fs', n1, n2⟩ := h.no
  obtain ⟨ad, p1, p2, p3⟩ := h.p
  obtain ⟨al, l1, l2, l3⟩ := h.l
  exact ⟨⟨dx, fs, kn a1 ⟨fun _ z => (by cases z), fun _ z => (by cases z)⟩, a2⟩, ⟨dx', fs', kn n1 ⟨fun _ z => (by cases z), fun _ z => (by cases z)⟩, n2⟩, kc (by simp [cells]) h.n, kn h.t ⟨fun _ z => (by cases z), fun _ z => (by cases z)⟩, kc (by simp [cells]) h.w,
    ⟨ad, kc (by simp [cells]) p1, p2, fun i q x z1 z2 => kn (p3 i q x z1 z2) ⟨fun _ z => (by cases z), fun _ z => (by cases z)⟩⟩, kc (by simp [cells]) h.k, kc (by simp [cells]) h.s,
    ⟨al, kc (by simp [cells]) l1, l2, fun i q x z1 z2 => kn (l3 i q x z1 z2) ⟨fun _ z => (by cases z), fun _ z => (by cases z)⟩⟩, h.nd⟩
theorem SigAt.nl {CS sg : Addr} {sorts : List Row} {signs : List Sgn} {pc ps pa pr : Addr} {sgn : List (Sgn × Addr)} {H H' : Hp} (h : SigAt CS H sg sorts signs pc ps pa pr sgn) (k : ∀ b o, H b = some o → Plain o → H' b = some o) : SigAt CS H' sg sorts signs pc ps pa pr sgn := by
  obtain ⟨dx, fs, a1, a2⟩ := h.at_
  obtain ⟨dx', fs', n1, n2⟩ := h.no
  exact ⟨⟨dx, fs, k _ _ a1 ⟨fun _ z => (by cases z), fun _ z => (by cases z)⟩, a2⟩, ⟨dx', fs', k _ _ n1 ⟨fun _ z => (by cases z), fun _ z => (by cases z)⟩, n2⟩, k _ _ h.pc ⟨fun _ z => (by cases z), fun _ z => (by cases z)⟩, k _ _ h.ps ⟨fun _ z => (by cases z), fun _ z => (by cases z)⟩, k _ _ h.pa ⟨fun _ z => (by cases z), fun _ z => (by cases z)⟩, k _ _ h.pr ⟨fun _ z => (by cases z), fun _ z => (by cases z)⟩, h.es, fun q hq => k _ _ (h.tup q hq) ⟨fun _ z => (by cases z), fun _ z => (by cases z)⟩⟩
theorem cells_ld {C a sg : Addr} {c : Ce} {tx : List (Key × V)} {st : List Nd} {H : Hp} (h : StoreAt C H a sg c tx st) : LD (cells c) H := fun b hb o ho => by
  obtain ⟨ad, p1, _⟩ := h.p
  obtain ⟨al, l1, _⟩ := h.l
  unfold cells at hb
  simp only [List.mem_cons, List.not_mem_nil, or_false] at hb
  rcases hb with rfl | rfl | rfl | rfl | rfl | rfl
  · rw [h.n] at ho; exact .inr ⟨_, (Option.some.inj ho).symm⟩
  · rw [h.w] at ho; exact .inl ⟨_, (Option.some.inj ho).symm⟩
  · rw [p1] at ho; exact .inl ⟨_, (Option.some.inj ho).symm⟩
  · rw [h.k] at ho; exact .inl ⟨_, (Option.some.inj ho).symm⟩
  · rw [h.s] at ho; exact .inl ⟨_, (Option.some.inj ho).symm⟩
  · rw [l1] at ho; exact .inl ⟨_, (Option.some.inj ho).symm⟩
theorem LD.not {F : List Addr} {H : Hp} (h : LD F H) {b : Addr} {o : HO} (ho : H b = some o) (hp : Plain o) : b ∉ F := fun hb => by
  rcases h b hb o ho with ⟨xs, rfl⟩ | ⟨m, rfl⟩
  · exact hp.1 _ rfl
  · exact hp.2 _ rfl
theorem LD.one {H : Hp} {l : Addr} {xs : List V} (h : H l = some (.lst xs)) : LD [l] H := fun b hb o ho => by
  rw [List.mem_singleton.mp hb, h] at ho
  exact .inl ⟨_, (Option.some.inj ho).symm⟩
section
variable {p : Par} {C CS a sg d lr : Addr} {c : Ce} {ps ps' : List Pth} {B B' H H' : Hp} {F : List Addr} {bs : Pth}
theorem PSt.nl (h : PSt p C CS B a sg c ps) (k : ∀ b o, B b = some o → (b ∉ cells c → Plain o) → B' b = some o) : PSt p C CS B' a sg c ps := by
  obtain ⟨pc, psA, pa, pr, sgn, hG⟩ := h.sig
  exact ⟨h.st.nl k, h.ok, pc, psA, pa, pr, sgn, hG.nl fun b o hb hp => k b o hb fun _ => hp⟩
theorem PSt.keep (h : PSt p C CS B a sg c ps) (x : ExB F B B') (hF : LD F B) (n : ∀ b ∈ F, b ∉ cells c) : PSt p C CS B' a sg c ps :=
  h.nl fun b o hb hp => x b o (fun hbF => hF.not hb (hp (n b hbF)) hbF) hb
theorem PSt.hide (h : PSt p C CS H a sg c ps) (hd : ∃ xs, H d = some (.lst xs)) (nd : d ∉ cells c) : PSt p C CS (hide H d) a sg c ps :=
  h.nl fun b o hb hp => by
    have : b ≠ d := fun z => by
      subst z
      obtain ⟨xs, e⟩ := hd
      rw [hb] at e
      exact (hp nd).1 xs (Option.some.inj e)
    rw [hide_ne this]
    exact hb
theorem PSt.ndr (h : PSt p C CS (KD.hide H d) a sg c ps) : d ∉ cells c := fresh_nin h.st hide_at
/-- a call that changed the store, the draws beside it -/
theorem PSt.step (h : PSt p C CS (KD.hide H d) a sg c ps) (hd : Dr H d) (x : ExB (cells c) H H') (h' : PSt p C CS H' a sg c ps') : PSt p C CS (KD.hide H' d) a sg c ps' := by
  obtain ⟨xs, _, e⟩ := hd
  exact h'.hide ⟨_, x _ _ h.ndr e⟩ h.ndr
theorem Dr.keep (hd : Dr H d) (x : ExB F H H') (n : d ∉ F) : Dr H' d := by
  obtain ⟨xs, g, e⟩ := hd
  exact ⟨xs, g, x _ _ n e⟩
/-- a path's rows -/
def Rw (p : Par) (B : Hp) (lr : Addr) (bs : Pth) : Prop := ∃ ads : List Addr, B lr = some (.lst (ads.map V.ref)) ∧ RowsT B ads (rowsOf p bs)
theorem Rw.mono (h : Rw p B lr bs) (e : Ex B B') : Rw p B' lr bs := by
  obtain ⟨ads, h1, h2⟩ := h
  exact ⟨ads, e _ _ h1, h2.mono e⟩
theorem Rw.keep (h : Rw p B lr bs) (x : ExB F B B') (hF : LD F B) (n : lr ∉ F) : Rw p B' lr bs := by
  obtain ⟨ads, h1, h2⟩ := h
  exact ⟨ads, x _ _ n h1, h2.len, fun i q r z1 z2 => x _ _ (hF.not (h2.at_ i q r z1 z2) ⟨fun _ z => (by cases z), fun _ z => (by cases z)⟩) (h2.at_ i q r z1 z2)⟩
theorem Rw.hide (h : Rw p H lr bs) (hd : ∃ xs, H d = some (.lst xs)) (n : lr ≠ d) : Rw p (KD.hide H d) lr bs := by
  obtain ⟨ads, h1, h2⟩ := h
  refine ⟨ads, by rw [hide_ne n]; exact h1, h2.len, fun i q r z1 z2 => ?_⟩
  have := h2.at_ i q r z1 z2
  rw [hide_ne (fun z => by
    obtain ⟨xs, e⟩ := hd
    rw [z, e] at this
    cases this)]
  exact this
theorem Rw.some (h : Rw p B lr bs) : ∃ xs, B lr = some (.lst xs) := by
  obtain ⟨ads, h1, _⟩ := h
  exact ⟨_, h1⟩
theorem Rw.nd (h : Rw p (KD.hide H d) lr bs) : lr ≠ d := fun z => by
  obtain ⟨xs, h1⟩ := h.some
  rw [z, hide_at] at h1
  cases h1
theorem Dr.lst (h : Dr H d) : ∃ xs, H d = some (.lst xs) := by
  obtain ⟨xs, _, e⟩ := h
  exact ⟨_, e⟩
end
end K87
-- B9
namespace K87
open PySem PySem.Spec PyProof.Rows L2 Evl KEv TL KDd KSq KSame KTxt KNew KRvT KD
/-! the calls of the law -/
/-- for some parameters -/
def spEx (S : Par → Sp) : Sp := fun vs H Q E => ∃ p, ParOk p ∧ S p vs H Q E
theorem ok_ex {P : Program} {w : World} {K : PySem.W.Frag} {mg : Str → Option Value} {base : Heap} {CX : CXT} {n : Nat} {f : Addr} {fd : FuncData} {xs : List Str} {S : Par → Sp} (h : ∀ p, ParOk p → FnOk P w K mg base CX n f fd xs (S p)) : FnOk P w K mg base CX n f fd xs (spEx S) :=
  ⟨fun vs H Q E z => by
    obtain ⟨p, hp, z⟩ := z
    exact (h p hp).len vs H Q E z, fun A outer s H args us vs Q E hr he hb hv z => by
    obtain ⟨p, hp, z⟩ := z
    exact (h p hp).run A outer s H args us vs Q E hr he hb hv z⟩
section
variable {K : PySem.W.Frag} {p : Par} {C CS a sg d lr : Addr} {c : Ce} {ps ps' : List Pth} {B B' H H' : Hp} {F : List Addr} {bs bo bi : Pth} {σ : L2.St} {te ta tb tc td tt tk tv : TE} {t tr : TA} {E : XK} {ec : EK → Addr}
/-- a term of the store, told by its path -/
def TermP (p : Par) (C CS a sg : Addr) (c : Ce) (te : TE) (σ : L2.St) (H : Hp) (ps : List Pth) (bs : Pth) (n : Nat) : Prop :=
  EvP (cells c) te σ H fun v G => ∃ ps', v = .int (ps'.idxOf bs : Int) ∧ More ps ps' ∧ bs ∈ ps' ∧ ps'.length ≤ ps.length + n ∧ PSt p C CS G a sg c ps'
theorem evp_of {v : V} {R : V → Hp → Prop} (h : Ev te σ H v) (r : ∀ G, Ex H G → R v G) : EvP F te σ H R := fun H1 e Q q => h H1 e _ fun H2 e2 => q v H2 (ExB.of e2) (r H2 (e.trans e2))
theorem tp_var (hP : PSt p C CS H a sg c ps) (hb : bs ∈ ps) (h : Ev te σ H (.int (ps.idxOf bs : Int))) : TermP p C CS a sg c te σ H ps bs 0 :=
  evp_of h fun G e => ⟨ps, rfl, More.refl hP.ok, hb, Nat.le_refl _, hP.mono e⟩
theorem tp_built (hp : ParOk p) (hP : PSt p C CS H a sg c ps) (hR : Rw p H lr bs) (n : lr ∉ cells c) (hz : bs.length ≤ 10000) (hz2 : ps.length + bs.length + 1 ≤ 40000) (h1 : Ev ta σ H (.ref a)) (h2 : Ev tb σ H (.ref lr)) :
    TermP p C CS a sg c (tCall (spEx fun p => spBuilt p C CS) [] E (tCons ta (tCons tb tNil))) σ H ps bs (bs.length + 1) := fun H1 e Q q =>
  (ea_cons h1 (ea_cons h2 ea_nil)) H1 e _ fun H2 e2 => by
    obtain ⟨ads, r1, r2⟩ := hR.mono (e.trans e2)
    have hP2 := hP.mono (e.trans e2)
    exact ⟨p, hp, a, sg, lr, c, ps, ads, bs, rfl, hP2, r1, r2, n, hz, hz2, fun ps' H3 m hb hl x hS => q _ H3 (fun b o hb' ho => x b o hb' (e2 _ _ ho)) ⟨ps', rfl, m, hb, hl, hP2.next x hS m.ok⟩⟩
theorem tp_make (hp : ParOk p) (hP : PSt p C CS H a sg c ps) (hl : ps.length ≤ 45000) {b : Bool} (hc : bs ∈ ps) (ha : Ev ta σ H (.ref a)) (hb : Ev tb σ H (.str (p.wd b))) (hv : EvL tc σ H (nV (List.replicate (p.a1 b) (ps.idxOf bs)))) : TermP p C CS a sg c (tMeth C "make" (spMake C CS) [] E ta (tCons tb (tCons tc tNil))) σ H ps (bs ++ [b]) 1 := fun H1 e Q q =>
  ep_make hp (hP.mono e) hl hc (fun G g => ha G (e.trans g)) (fun G g => hb G (e.trans g)) (fun G g => hv G (e.trans g)) H1 (Ex.refl H1) Q fun v G x r => by
    have hpre : hasPre ps (bs ++ [b]) := fun ds b' z => by rw [← List.append_inj_left' z rfl]; exact hc
    have m := More.add hP.ok hpre
    exact q v G x ⟨_, r.1, m, addP_mem.mpr (.inr rfl), addP_len _ _, (hP.mono e).next x r.2 m.ok⟩
/-- terms.put_in(term, {letter: value}) -/
theorem tp_put_in {n1 n2 : Nat} (hp : ParOk p) (hP : PSt p C CS H a sg c ps) (hz : bo.length ≤ 10000) (hl : ps.length + n1 + n2 + bo.length ≤ 40000) (ha : Ev ta σ H (.ref a)) (ht : TermP p C CS a sg c tt σ H ps bo n1) (hk : ∀ G, ExB (cells c) H G → Ev tk σ G (.str p.lt))
    (hv : ∀ G ps1, ExB (cells c) H G → More ps ps1 → ps1.length ≤ ps.length + n1 → PSt p C CS G a sg c ps1 → TermP p C CS a sg c tv σ G ps1 bi n2) : TermP p C CS a sg c (tMeth C "put_in" (spPutIn C CS) [] E ta (tCons tt (tCons (tDisp [(tk, tv)]) tNil))) σ H ps (bi ++ bo) (n1 + n2 + bo.length) := fun H1 e Q q =>
  ha H1 e _ fun H2 e2 => by
    obtain ⟨dx, fs, o1, o2⟩ := hP.st.no
    refine ⟨a, dx, fs, rfl, e2 _ _ (e _ _ o1), o2 _ (by decide), ht H2 (e.trans e2) _ fun v3 H3 x3 r3 => ?_⟩
    obtain ⟨ps1, rfl, m1, hb1, l1, hP3⟩ := r3
    have x13 : ExB (cells c) H H3 := fun b o hb ho => x3 b o hb ((e.trans e2) _ _ ho)
    intro pd hpd
    have e4 : Ex H3 (L2.upd H3 pd (.dK [])) := Ex.new hpd
    have npd : pd ∉ cells c := fresh_nin hP3.st hpd
    have pdt : pd ≠ c.t := fun z => by have := hP3.st.t; rw [← z, hpd] at this; cases this
    refine hk H3 x13 _ e4 _ fun H4 e5 => hv H3 ps1 x13 m1 l1 hP3 H4 (e4.trans e5) _ fun v6 H6 x6 r6 => ?_
    obtain ⟨ps2, rfl, m2, hb2, l2, hP6⟩ := r6
    have h6 : H6 pd = some (.dK []) := x6 _ _ npd (e5 _ _ upd_same)
    have x36 : ExB (cells c) H3 (L2.upd H6 pd (.dK (mergeK [] [((Sum.inr p.lt : Key), V.int (ps2.idxOf bi : Int))]))) := fun b o hb ho => by
      rw [upd_ne (fun z => by rw [z, hpd] at ho; cases ho)]
      exact x6 b o hb ((e4.trans e5) _ _ ho)
    have hS7 : StoreAt C (L2.upd H6 pd (.dK (mergeK [] [((Sum.inr p.lt : Key), V.int (ps2.idxOf bi : Int))]))) a sg c [] (stP p ps2) := hP6.st.updK h6 pdt
    have hP7 := hP3.next x36 hS7 m2.ok
    refine ⟨h6, [((Sum.inr p.lt : Key), V.int (ps2.idxOf bi : Int))], rfl, (by show 1 ≤ 15; decide), ?_⟩
    obtain ⟨pc, psA, pa, pr, sgn, hG⟩ := hP7.sig
    obtain ⟨hbo2, hix⟩ := m2.sub _ hb1
    obtain ⟨mt, hmt⟩ := touched_path (p := p) hp m2.ok (by omega) (ps2.idxOf bi) hbo2 hz
    obtain ⟨m3, hin, l3⟩ := putAll_more m2.ok hb2 bo
    refine ⟨a, sg, pd, c, [], stP p ps2, [(p.lt, ps2.idxOf bi)], ps1.idxOf bo, mt, (chainOf bo).map ps2.idxOf, [p.lt], sortsP p, signsP p, pc, psA, pa, pr, sgn, rfl, hS7, hG, upd_same, by simp, by simp, fun q hq => ?_, by rw [← hix]; exact hmt, fun ss h1 h2 => ?_⟩
    · rw [List.mem_singleton.mp hq]
      exact ⟨hp.let_, _, st_get hb2, ws_let hp⟩
    · obtain ⟨ms, hrun, hlk⟩ := put_in_path hp m2.ok hb2 hbo2 (by omega) h1 h2
      refine ⟨_, ms, hrun, fun H8 x8 hS8 => ?_⟩
      rw [← hix, hlk]
      refine q _ H8 (fun b o hb ho => x8 b o hb (x36 b o hb (x3 b o hb (e2 _ _ ho)))) ⟨_, rfl, (m1.trans m2).trans m3, hin, by omega, hP7.next x8 hS8 m3.ok⟩
theorem er_putR (hp : ParOk p) {li : Addr} (ho : Rw p H lr bo) (hi : Rw p H li bi) (h1 : Ev ta σ H (.ref lr)) (h2 : Ev tb σ H (.ref li)) (z1 : bo.length ≤ 10000) (z2 : bi.length ≤ 10000) : EvR (tCall (spEx spPutR) [] E (tCons ta (tCons tb tNil))) σ H fun v G => ∃ q, v = .ref q ∧ H q = none ∧ Rw p G q (bi ++ bo) := fun H1 e Q q =>
  (ea_cons h1 (ea_cons h2 ea_nil)) H1 e _ fun H2 e2 => by
    obtain ⟨ad1, r1, r2⟩ := ho.mono (e.trans e2)
    obtain ⟨ad2, r3, r4⟩ := hi.mono (e.trans e2)
    exact ⟨p, hp, lr, li, ad1, ad2, bo, bi, rfl, r1, r2, r3, r4, z1, z2, fun q' ads H3 nq e3 h3 h4 => q _ H3 (e2.trans e3) ⟨q', rfl, fresh_back (e.trans e2) nq, ads, h3, h4⟩⟩
/-- _law_tells(terms, a term, rows, letter) -/
theorem ep_tells (hp : ParOk p) {N : Nat} (hN : N ≤ 40000) (hz : bs.length ≤ 10000) (h1 : Ev ta σ H (.ref a)) (h2 : EvP F tb σ H fun v G => ∃ ps', v = .int (ps'.idxOf bs : Int) ∧ bs ∈ ps' ∧ ps'.length ≤ N ∧ PSt p C CS G a sg c ps')
    (h3 : ∀ G, ExB F H G → EvR tc σ G fun v G' => ∃ lr, v = .ref lr ∧ Rw p G' lr bs) (h4 : ∀ G, ExB F H G → Ev td σ G (.str p.lt)) :
    EvP F (tCall (spEx fun p => spTells p C CS) [] E (tCons ta (tCons tb (tCons tc (tCons td tNil))))) σ H fun v G => v = .bl true ∧ ∃ ps', bs ∈ ps' ∧ ps'.length ≤ N ∧ PSt p C CS G a sg c ps' := fun H1 e Q q =>
  h1 H1 e _ fun H2 e2 => h2 H2 (e.trans e2) _ fun v3 H3 x3 r3 => by
    obtain ⟨ps', rfl, hb, hl, hP⟩ := r3
    have x13 : ExB F H H3 := fun b o hb ho => x3 b o hb ((e.trans e2) _ _ ho)
    refine h3 H3 x13 H3 (Ex.refl H3) _ fun v4 H4 e4 r4 => h4 H3 x13 H4 e4 _ fun H5 e5 => ?_
    obtain ⟨lr, rfl, hR⟩ := r4
    obtain ⟨ads, g1, g2⟩ := hR.mono e5
    refine ⟨p, hp, a, sg, lr, c, ps', ads, bs, rfl, hP.mono (e4.trans e5), hb, by omega, hz, g1, g2, fun H6 e6 => q _ H6 (fun b o hb ho => ((e4.trans e5).trans e6) _ _ (x3 b o hb (e2 _ _ ho))) ⟨rfl, ps', hb, hl, hP.mono ((e4.trans e5).trans e6)⟩⟩
theorem run_back {bs : Pth} (ho : okRf 0 (rfOf bs)) : ∀ j, j ≤ bs.length → (runRf [] (rfOf bs))[j]? = some (bs.take j) := by
  obtain ⟨_, h2⟩ := runRf_get (rfOf bs) [] ho
  intro j
  induction j with
  | zero =>
    intro _
    have := h2 0 none (rfOf_zero bs)
    simpa using this
  | succ j ih =>
    intro hj
    obtain ⟨b, hb⟩ : ∃ b, bs[j]? = some b := ⟨_, List.getElem?_eq_getElem (by omega)⟩
    have := h2 (j + 1) _ (rfOf_succ hb)
    rw [List.length_nil, Nat.zero_add] at this
    rw [this, take_snoc hb]
    show some ((runRf [] (rfOf bs)).getD j [] ++ [b]) = _
    rw [List.getD_eq_getElem?_getD, ih (by omega)]
    rfl
/-- other.from_shared(terms.shared(number)) -/
theorem tp_back (hp : ParOk p) {a2 sg2 : Addr} {c2 : Ce} {E2 : XK} (hP : PSt p C CS H a sg c ps) (hb : bs ∈ ps) (hl : ps.length ≤ 40000) (hz : bs.length ≤ 10000) (hP2 : PSt p C CS H a2 sg2 c2 []) (h2 : Ev tb σ H (.ref a2)) (h1 : Ev ta σ H (.ref a)) (hn : Ev tc σ H (.int (ps.idxOf bs : Int))) :
    EvP (cells c2) (tMeth C "from_shared" (spFromShared ec C CS) [] E tb (tCons (tMeth C "shared" (spShared C) [] E2 ta (tCons tc tNil)) tNil)) σ H fun v G => ∃ ps', v = .int (ps'.idxOf bs : Int) ∧ bs ∈ ps' ∧ ps'.length ≤ bs.length + 1 ∧ PSt p C CS G a2 sg2 c2 ps' := fun H1 e Q q =>
  h2 H1 e _ fun H2 e2 => by
    obtain ⟨dx2, fs2, o1, o2⟩ := hP2.st.no
    refine ⟨a2, dx2, fs2, rfl, e2 _ _ (e _ _ o1), o2 _ (by decide), h1 H2 (e.trans e2) _ fun H3 e3 => ?_⟩
    obtain ⟨dx, fs, o3, o4⟩ := hP.st.no
    have e13 := (e.trans e2).trans e3
    refine ⟨a, dx, fs, rfl, e13 _ _ o3, o4 _ (by decide), hn H3 e13 _ fun H4 e4 => ?_⟩
    have e14 := e13.trans e4
    obtain ⟨ms, hsh⟩ := shared_path hp hP.ok (by omega) hb hz
    refine ⟨a, sg, c, [], stP p ps, ps.idxOf bs, ms, rowsOf p bs, rfl, hP.st.mono e14, hsh, fun pp ads H5 _ e5 h5 hR5 => ?_⟩
    have e15 := e14.trans e5
    have hP5 := hP2.mono e15
    obtain ⟨pc, psA, pa, pr, sgn, hG⟩ := hP5.sig
    have hok : okRf 0 (rfOf bs) := by
      have := okR_take (bs := bs) (rfOf bs).length
      rwa [List.take_length] at this
    obtain ⟨ps', m, l', hin, hrun⟩ := good_run hp PathsOk.nil hok (by rw [rfOf_len, List.length_nil]; omega)
    rw [rf_rows] at hrun
    rw [rfOf_len, List.length_nil, Nat.zero_add] at l'
    have hlast := run_back hok bs.length (Nat.le_refl _)
    rw [List.take_length] at hlast
    have hlen : (runRf [] (rfOf bs)).length = bs.length + 1 := by rw [runRf_len, rfOf_len, List.length_nil]; omega
    have hbm : bs ∈ ps' := hin _ (List.mem_of_getElem? hlast)
    refine ⟨a2, sg2, pp, c2, [], [], stP p ps', ads, (rowsOf p bs).map toI, (runRf [] (rfOf bs)).map ps'.idxOf, none, [p.lt], sortsP p, signsP p, pc, psA, pa, pr, sgn, rfl, hP5.st, hG, h5, hR5.toI, fun g hg => ?_, hrun, fun r hr => ?_, fun k hk => (by cases hk), fun _ hn => ?_, fun _ ns n hn => ?_⟩
    · unfold signsP at hg
      simp only [List.mem_cons, List.not_mem_nil, or_false] at hg
      rcases hg with rfl | rfl
      · exact ⟨hp.c1, by show 1 ≤ 4; decide⟩
      · exact ⟨hp.c2, by simp; exact hp.ar4⟩
    · obtain ⟨r', hr', rfl⟩ := List.mem_map.mp hr
      exact rows_str hp hr'
    · have := congrArg List.length hn
      rw [List.length_map, hlen] at this
      cases this
    · have hnl := congrArg List.length hn
      rw [List.length_map, hlen, List.length_append, List.length_singleton] at hnl
      have hn2 : n = ps'.idxOf bs := by
        have z := congrArg (fun l => l[bs.length]?) hn
        simp only [List.getElem?_map, hlast, Option.map_some] at z
        rw [List.getElem?_append_right (by omega), show bs.length - ns.length = 0 by omega] at z
        exact (Option.some.inj z).symm
      obtain ⟨m2, hm2⟩ := shared_path hp m.ok (by omega) hbm hz
      rw [hn2]
      refine ⟨m2, rowsOf p bs, hm2, fun r hr => rows_str hp hr, fun k hk hmis _ => absurd hmis ?_, fun _ H6 x6 h6 => q _ H6 (fun b o hb ho => x6 b o hb ((((e2.trans e3).trans e4).trans e5) _ _ ho)) ⟨ps', rfl, hbm, l', hP5.next x6 h6 m.ok⟩⟩
      rintro (z | z)
      · rw [List.length_map] at hk; omega
      · exact z (by rw [List.getElem?_map])
end
end K87
-- B10
namespace K87
open PySem PySem.Spec PyProof.Rows L2 Evl KEv TL KDd KSq KSame KTxt KNew KRvT KD
/-! the signature and the stores over it, made -/
theorem made_sig {C : Addr} {H : Hp} {a : Addr} {sorts : List Row} {signs : List Sgn} (h : MadeAt C H a sorts signs) : ∃ pc ps pa pr sg, SigAt C H a sorts signs pc ps pa pr sg := by
  obtain ⟨pc, ps, pa, pr, ts, tg, sg, said, ⟨dx, fs, h1, h1'⟩, h2, h4, h5, h6, h7, h8, h9, h10, h11, h12⟩ := h
  refine ⟨pc, ps, pa, pr, sg, ⟨⟨dx, fs, h1, fun m hm => h1' m ?_⟩, h2, h4, h5, h6, h7, h8, h9⟩⟩
  simp only [List.mem_cons, List.not_mem_nil, or_false] at hm ⊢
  rcases hm with rfl | rfl | rfl | rfl
  · exact .inl rfl
  · exact .inr (.inl rfl)
  · exact .inr (.inr (.inl rfl))
  · exact .inr (.inr (.inr (.inl rfl)))
theorem rowsAt_up {α : Type} {f : Hp → Addr → α → Prop} {H H' : Hp} {b : Addr} {rs : List α} (h : RowsAt f H b rs) (e : Ex H H') (hf : ∀ q r, f H q r → f H' q r) : RowsAt f H' b rs := by
  obtain ⟨ads, h1, h2, h3⟩ := h
  exact ⟨ads, e _ _ h1, h2, fun i q r z1 z2 => hf q r (h3 i q r z1 z2)⟩
theorem rowAt_up {H H' : Hp} {q : Addr} {r : Row} (e : Ex H H') (h : RowAt H q r) : RowAt H' q r := e _ _ h
theorem sgnAt_up {H H' : Hp} {q : Addr} {r : Sgn} (e : Ex H H') (h : SgnAt H q r) : SgnAt H' q r := by
  obtain ⟨z, h1, h2⟩ := h
  exact ⟨z, e _ _ h1, e _ _ h2⟩
section
variable {p : Par} {C CS a sg d : Addr} {c : Ce} {H : Hp} {σ : L2.St} {te ta tb tc : TE} {E : XK} {ec : EK → Addr} {g g1 g2 : Sgn} {r : Row}
theorem er_row (h1 : Ev ta σ H (.str r.1)) (h2 : Ev tb σ H (.str r.2)) : EvR (tLst (tCons (tTup (tCons ta (tCons tb tNil))) tNil)) σ H fun v G => ∃ b, v = .ref b ∧ RowsAt RowAt G b [r] := fun H1 e Q q =>
  (er_lstU (eu_tup (vs := [.str r.1, .str r.2]) (ea_cons h1 (ea_cons h2 ea_nil)) (by simp))) H1 e _ fun v H2 e2 hv => by
    obtain ⟨z, pr, rfl, _, h3, h4⟩ := hv
    refine q _ H2 e2 ⟨pr, rfl, [z], h3, rfl, fun i q' r' z1 z2 => ?_⟩
    cases i with
    | zero =>
      have z1 : z = q' := Option.some.inj z1
      have z2 : r = r' := Option.some.inj z2
      rw [← z1, ← z2]
      exact h4
    | succ i => cases z1
theorem er_sgn (h1 : Ev ta σ H (.str g.1)) (h2 : EvL tb σ H (g.2.1.map V.str)) (h3 : Ev tc σ H (.str g.2.2)) : EvR (tTup (tCons ta (tCons tb (tCons tc tNil)))) σ H fun v G => ∃ q, v = .ref q ∧ SgnAt G q g := fun H1 e Q q =>
  h1 H1 e _ fun H2 e2 => h2 H2 (e.trans e2) _ fun pl H3 _ e3 hl => h3 H3 ((e.trans e2).trans e3) _ fun H4 e4 => ⟨sz_of (by simp), fun r hr => q (.ref r) _ (((e2.trans e3).trans e4).trans (Ex.new hr)) ⟨r, rfl, pl, upd_same, (Ex.new hr) _ _ (e4 _ _ hl)⟩⟩
theorem er_sgns (h1 : EvR ta σ H fun v G => ∃ q, v = .ref q ∧ SgnAt G q g1) (h2 : ∀ G, Ex H G → EvR tb σ G fun v G => ∃ q, v = .ref q ∧ SgnAt G q g2) : EvR (tLst (tCons ta (tCons tb tNil))) σ H fun v G => ∃ b, v = .ref b ∧ RowsAt SgnAt G b [g1, g2] := fun H1 e Q q =>
  h1 H1 e _ fun v2 H2 e2 r2 => h2 H2 (e.trans e2) H2 (Ex.refl H2) _ fun v3 H3 e3 r3 => by
    obtain ⟨q1, rfl, s1⟩ := r2
    obtain ⟨q2, rfl, s2⟩ := r3
    refine ⟨sz_of (by simp), fun r hr => q (.ref r) _ ((e2.trans e3).trans (Ex.new hr)) ⟨r, rfl, [q1, q2], upd_same, rfl, fun i q' r' z1 z2 => ?_⟩⟩
    match i with
    | 0 =>
      have z1 : q1 = q' := Option.some.inj z1
      have z2 : g1 = r' := Option.some.inj z2
      rw [← z1, ← z2]
      exact sgnAt_up (e3.trans (Ex.new hr)) s1
    | 1 =>
      have z1 : q2 = q' := Option.some.inj z1
      have z2 : g2 = r' := Option.some.inj z2
      rw [← z1, ← z2]
      exact sgnAt_up (Ex.new hr) s2
    | i + 2 => cases z1
theorem er_mkSig (hp : ParOk p) (ff : firstFault (sortsP p) (signsP p) = none) (l1 : p.srt.length ≤ 400) (l2 : p.cap.length ≤ 400) (h1 : EvR ta σ H fun v G => ∃ b, v = .ref b ∧ RowsAt RowAt G b (sortsP p)) (h2 : ∀ G, Ex H G → EvR tb σ G fun v G => ∃ b, v = .ref b ∧ RowsAt SgnAt G b (signsP p)) :
    EvR (tMake CS (spInit ec CS) [] E (tCons ta (tCons tb tNil))) σ H fun v G => ∃ s, v = .ref s ∧ ∃ pc psA pa pr sgn, SigAt CS G s (sortsP p) (signsP p) pc psA pa pr sgn := fun H1 e Q q =>
  h1 H1 e _ fun v2 H2 e2 r2 => h2 H2 (e.trans e2) H2 (Ex.refl H2) _ fun v3 H3 e3 r3 => by
    obtain ⟨b1, rfl, s1⟩ := r2
    obtain ⟨b2, rfl, s2⟩ := r3
    intro x dx hx hdx hne
    have hx2 : (L2.upd H3 dx (.own x)) x = none := by rw [upd_ne (Ne.symm hne)]; exact hx
    have en : Ex H3 (L2.upd (L2.upd H3 dx (.own x)) x (.ins CS dx [])) := (Ex.new hdx).trans (Ex.new hx2)
    refine ⟨x, b1, b2, dx, sortsP p, signsP p, rfl, upd_same, rowsAt_up (rowsAt_up s1 e3 fun _ _ => rowAt_up e3) en fun _ _ => rowAt_up en, rowsAt_up s2 en fun _ _ => sgnAt_up en, by simp [sortsP], by simp [signsP], fun r hr => ?_, fun g hg => ?_, fun k s hf => ?_, fun _ H' xb hM => ⟨rfl, ?_⟩⟩
    · rw [List.mem_singleton.mp hr]
      exact ⟨by show p.srt.length ≤ 1000; omega, by show p.cap.length ≤ 1000; omega⟩
    · have z1 := hp.l1
      have z2 := hp.l2
      have z3 := hp.ar4
      unfold signsP at hg
      simp only [List.mem_cons, List.not_mem_nil, or_false] at hg
      rcases hg with rfl | rfl
      · exact ⟨by show p.one.length ≤ 1000; omega, by show 1 ≤ 1000; decide⟩
      · exact ⟨by show p.many.length ≤ 1000; omega, by simp; omega⟩
    · rw [ff] at hf
      cases hf
    · have up : Ex H3 H' := fun b o hb => xb b o (fun z => by rw [List.mem_singleton.mp z, hx] at hb; cases hb) (en _ _ hb)
      exact q _ H' ((e2.trans e3).trans up) ⟨x, rfl, made_sig hM⟩
theorem er_mkT (hS : ∃ pc psA pa pr sgn, SigAt CS H sg (sortsP p) (signsP p) pc psA pa pr sgn) (h : Ev te σ H (.ref sg)) : EvR (tMake C (spTInit C) [] E (tCons te tNil)) σ H fun v G => ∃ a c, v = .ref a ∧ PSt p C CS G a sg c [] ∧ ∀ b ∈ cells c, H b = none := fun H1 e Q q =>
  h H1 e _ fun H2 e2 => by
    intro x dx hx hdx hne
    have hx2 : (L2.upd H2 dx (.own x)) x = none := by rw [upd_ne (Ne.symm hne)]; exact hx
    have en : Ex H2 (L2.upd (L2.upd H2 dx (.own x)) x (.ins C dx [])) := (Ex.new hdx).trans (Ex.new hx2)
    refine ⟨x, sg, dx, rfl, upd_same, fun c H' xb hf hSt => ⟨rfl, ?_⟩⟩
    have up : Ex H2 H' := fun b o hb => xb b o (fun z => by rw [List.mem_singleton.mp z, hx] at hb; cases hb) (en _ _ hb)
    obtain ⟨pc, psA, pa, pr, sgn, hG⟩ := hS
    refine q _ H' (e2.trans up) ⟨x, c, rfl, ⟨hSt, PathsOk.nil, pc, psA, pa, pr, sgn, hG.mono ((e.trans e2).trans up)⟩, fun b hb => ?_⟩
    refine fresh_back ((e.trans e2).trans en) (hf b ?_)
    unfold cells at hb
    simp only [List.mem_cons, List.not_mem_nil, or_false] at hb ⊢
    rcases hb with rfl | rfl | rfl | rfl | rfl | rfl <;> simp
end
/-! the law's names -/
theorem nm_ok {c0 : Nat} {x r : Str} (h : tl x = c0 :: tl r) (hc : c0 ∈ tl small) (hl : (tl r).length ≤ 22) (al : ∀ z ∈ tl r, z ∈ tl ("xyz05" : Str)) : nameB (tl x) = true ∧ (1 ≤ x.length ∧ x.length ≤ 400) ∧ capH x = false ∧ PyData.strOk x = true ∧ 32 ∉ tl x := by
  have a1 : ∀ z ∈ tl ("xyz05" : Str), (z ∈ tl small ∨ z ∈ tl digits) ∧ z ≠ 32 ∧ z < 0x110000 := by decide
  have a2 : ∀ z ∈ tl small, z ∉ tl capitals ∧ z ≠ 32 ∧ z < 0x110000 := by decide
  have hall : ∀ z ∈ tl x, (z ∈ tl small ∨ z ∈ tl digits) ∧ z ≠ 32 ∧ z < 0x110000 := fun z hz => by
    rw [h] at hz
    rcases List.mem_cons.mp hz with rfl | hz
    · exact ⟨.inl hc, (a2 _ hc).2⟩
    · exact a1 z (al z hz)
  have hlen : (tl x).length = (tl r).length + 1 := by rw [h]; rfl
  refine ⟨?_, ⟨by rw [len_tl, hlen]; omega, by rw [len_tl, hlen]; omega⟩, ?_, ?_, fun z => (hall 32 z).2.1 rfl⟩
  · unfold nameB
    simp only [Bool.and_eq_true, decide_eq_true_eq, List.all_eq_true, Bool.or_eq_true]
    refine ⟨⟨⟨by omega, by omega⟩, ?_⟩, fun z hz => (hall z hz).1⟩
    rw [h]
    exact decide_eq_true hc
  · unfold capH
    rw [h]
    exact decide_eq_false (a2 _ hc).1
  · unfold PyData.strOk
    rw [← Array.all_toList, List.all_eq_true]
    exact fun z hz => decide_eq_true (hall z hz).2.2
def parOf (c n : Nat) (x r : Str) : Par := ⟨"p" ++ r, "q" ++ r, ⟨#[c]⟩ ++ x, "s" ++ r, ⟨#[c]⟩, 1 + n⟩
theorem tl_p (r : Str) : tl ("p" ++ r) = 112 :: tl r := by rw [tl_append]; rfl
theorem tl_q (r : Str) : tl ("q" ++ r) = 113 :: tl r := by rw [tl_append]; rfl
theorem tl_s (r : Str) : tl ("s" ++ r) = 115 :: tl r := by rw [tl_append]; rfl
theorem par_ok {c n : Nat} {x r : Str} (hc : c ∈ tl capitals) (hx : DigOk x) (hl : (tl r).length ≤ 22) (al : ∀ z ∈ tl r, z ∈ tl ("xyz05" : Str)) (hn : n < 4) : ParOk (parOf c n x r) ∧ firstFault (sortsP (parOf c n x r)) (signsP (parOf c n x r)) = none ∧ (parOf c n x r).srt.length ≤ 400 ∧ (parOf c n x r).cap.length ≤ 400 := by
  obtain ⟨p1, p2, p3, p4, p5⟩ := nm_ok (tl_p r) (by decide) hl al
  obtain ⟨q1, q2, q3, q4, q5⟩ := nm_ok (tl_q r) (by decide) hl al
  obtain ⟨s1, s2, s3, s4, s5⟩ := nm_ok (tl_s r) (by decide) hl al
  obtain ⟨l1, l2⟩ := let_dig hc hx
  have ne : ("p" ++ r : Str) ≠ "q" ++ r := fun z => by
    have := congrArg tl z
    rw [tl_p, tl_q] at this
    cases (List.cons.inj this).1
  have nn : ∀ {y : Str} {k : Nat}, tl y = k :: tl r → k ≠ 110 → y ≠ "none0" := fun h1 h2 z => by
    have := congrArg tl z
    rw [h1, show tl ("none0" : Str) = [110, 111, 110, 101, 48] by decide] at this
    exact h2 (List.cons.inj this).1
  have b3 : 32 ∉ tl ((⟨#[c]⟩ : Str) ++ x) := fun z => by
    rw [tl_append] at z
    rcases List.mem_append.mp z with z | z
    · have z : 32 ∈ [c] := z
      have a1 : ∀ c ∈ tl capitals, c ≠ 32 := by decide
      exact a1 c hc (List.mem_singleton.mp z).symm
    · have a1 : ∀ c ∈ tl digits, c ≠ 32 := by decide
      exact a1 32 (hx.al 32 z) rfl
  refine ⟨⟨ne, p3, q3, l1, l2, p2, q2, Nat.le_add_right 1 n, by show 1 + n ≤ 4; omega, ?_, nn (tl_p r) (by decide), nn (tl_q r) (by decide), p4, q4, p5, q5, b3⟩, ?_, s2.2, by show ((⟨#[c]⟩ : Str).length) ≤ 400; show 1 ≤ 400; decide⟩
  · show (⟨#[c]⟩ : Str) = ⟨#[(tl ((⟨#[c]⟩ : Str) ++ x)).headD 0]⟩
    rw [tl_append]
    rfl
  · have c1 : capB (tl (⟨#[c]⟩ : Str)) = true := by
      show (decide ([c].length = 1) && decide (c ∈ tl capitals)) = true
      rw [decide_eq_true hc]
      rfl
    have f1 : sortFault [] ("s" ++ r) (⟨#[c]⟩ : Str) = none := by
      unfold sortFault
      rw [if_neg (by rw [s1]; decide), if_neg (by simp), if_neg (by rw [c1]; decide), if_neg (by simp)]
    have f2 : signFault (sortsP (parOf c n x r)) [] ("p" ++ r, ["s" ++ r], "s" ++ r) = none := by
      unfold signFault
      rw [if_neg (by show ¬ nameB (tl ("p" ++ r)) = false; rw [p1]; decide), if_neg (by simp), if_neg (by simp)]
      simp [sortsP, parOf]
    have f3 : signFault (sortsP (parOf c n x r)) [("p" ++ r : Str)] ("q" ++ r, List.replicate (1 + n) ("s" ++ r), "s" ++ r) = none := by
      unfold signFault
      rw [if_neg (by show ¬ nameB (tl ("q" ++ r)) = false; rw [q1]; decide), if_neg (by simpa using fun z => ne z.symm), if_neg (by simp; omega)]
      have : ((List.replicate (1 + n) ("s" ++ r : Str) ++ ["s" ++ r]).find? fun k => !decide (k ∈ (sortsP (parOf c n x r)).map (·.1))) = none := by
        rw [List.find?_eq_none]
        intro z hz
        have : z = "s" ++ r := by
          rcases List.mem_append.mp hz with hz | hz
          · exact List.eq_of_mem_replicate hz
          · exact List.mem_singleton.mp hz
        rw [this]
        simp [sortsP, parOf]
      rw [this]
      rfl
    unfold firstFault firstSorts
    rw [if_pos (by rfl)]
    have e1 : sortsFrom [] (sortsP (parOf c n x r)) = none := by
      show sortsFrom [] [("s" ++ r, (⟨#[c]⟩ : Str))] = none
      rw [from_step f1]
      rfl
    rw [e1]
    show (if decide (12 < 2) = true then _ else signsFrom (sortsP (parOf c n x r)) [] [("p" ++ r, ["s" ++ r], "s" ++ r), ("q" ++ r, List.replicate (1 + n) ("s" ++ r), "s" ++ r)]) = none
    have z12 : ¬ (decide ((12 : Nat) < 2) = true) := by decide
    refine (if_neg z12).trans ?_
    rw [sign_step f2]
    show signsFrom _ [("p" ++ r : Str)] _ = none
    rw [sign_step f3]
    rfl
end K87
-- B11
namespace K87
open PySem PySem.Spec PyProof.Rows L2 Evl KEv TL KDd KSq KSame KTxt KNew KRvT KD
/-! law -/
/-- a class that is made -/
structure MkC (P : Program) (w : World) (K : PySem.W.Frag) (mg : Str → Option Value) (base : Heap) (CX : CXT) (k : Nat) (x : Str) (C : Addr) (ps : List Str) (sp : Sp) (f : Addr) (fd : FuncData) : Prop where
  F : FnOk P w K mg base CX k f fd ps sp
  M : Mk K C f
  g : mg x = some (.ref C)
  b : Binds K fd ps []
section
variable {K : PySem.W.Frag} {p : Par} {C CS a sg d lr : Addr} {c : Ce} {ps ps' : List Pth} {bs : Pth} {B H H' : Hp} {σ : L2.St} {te ta : TE} {t : TA} {E : XK} {v : V}
theorem EvR.imp {R1 R2 : V → Hp → Prop} (h : EvR te σ H R1) (hi : ∀ v G, R1 v G → R2 v G) : EvR te σ H R2 := fun H1 e Q q => h H1 e Q fun v H2 e2 r => q v H2 e2 (hi v H2 r)
theorem er_ev {R : V → Hp → Prop} (h : Ev te σ H v) (r : ∀ G, Ex H G → R v G) : EvR te σ H R := fun H1 e Q q => h H1 e _ fun H2 e2 => q v H2 e2 (r H2 (e.trans e2))
theorem eg_small (hp : ParOk p) (h : EvA t σ B [.ref d, .str p.lt, .str p.one, .str p.many, .int (p.ar : Int)]) : EvG (tCall (spEx spSmall) [] E t) σ B d fun v B2 => ∃ q, ∃ bs : Pth, v = .ref q ∧ B q = none ∧ Rw p B2 q bs ∧ bs.length ≤ 3 := fun H s Q q =>
  h H s.ex _ fun H1 e1 => by
    have s1 := s.mono e1
    refine ⟨p, hp, d, [.str p.lt, .str p.one, .str p.many, .int (p.ar : Int)], rfl, s1.dr, rfl, fun v B2 H2 e2 s2 r => ?_⟩
    obtain ⟨z, ads, bs, rfl, nz, h1, h2, h3⟩ := r
    exact q _ B2 H2 (s1.below.trans e2) s2 ⟨z, bs, rfl, fresh_back s1.below nz, ⟨ads, h1, h2⟩, h3⟩
/-- the law between two steps: the store, the rows, the draws -/
structure LS (p : Par) (C CS d a sg lr : Addr) (c : Ce) (H : Hp) (ps : List Pth) (bs : Pth) : Prop where
  dr : Dr H d
  st : PSt p C CS (hide H d) a sg c ps
  rw_ : Rw p (hide H d) lr bs
  nl : lr ∉ cells c
  mem : bs ∈ ps
theorem LS.sd (h : LS p C CS d a sg lr c H ps bs) (e : Ex (hide H d) B) (s : Sd B d H') : LS p C CS d a sg lr c H' ps bs := ⟨s.dr, h.st.mono (e.trans s.below), h.rw_.mono (e.trans s.below), h.nl, h.mem⟩
theorem LS.ex (h : LS p C CS d a sg lr c H ps bs) (e : Ex H H') : LS p C CS d a sg lr c H' ps bs := ⟨h.dr.mono e, h.st.mono (hide_mono e), h.rw_.mono (hide_mono e), h.nl, h.mem⟩
theorem LS.full (h : LS p C CS d a sg lr c H ps bs) : PSt p C CS H a sg c ps := h.st.mono hide_ex
theorem LS.frw (h : LS p C CS d a sg lr c H ps bs) : Rw p H lr bs := h.rw_.mono hide_ex
theorem LS.go (h : LS p C CS d a sg lr c H ps bs) (x : ExB (cells c) H H') (hP : PSt p C CS H' a sg c ps') (m : More ps ps') : LS p C CS d a sg lr c H' ps' bs :=
  ⟨Dr.keep h.dr x h.st.ndr, h.st.step h.dr x hP, h.rw_.keep (hide_monoB x) (cells_ld h.st.st) h.nl, h.nl, (m.sub _ h.mem).1⟩
theorem LS.rows {q : Addr} {cs : Pth} (h : LS p C CS d a sg lr c H ps bs) (hR : Rw p (hide H d) q cs) (n : q ∉ cells c) (hm : cs ∈ ps) : LS p C CS d a sg q c H ps cs := ⟨h.dr, h.st, hR, n, hm⟩
/-- another store's cells change -/
theorem LS.keep {F : List Addr} (h : LS p C CS d a sg lr c H ps bs) (x : ExB F H H') (hF : LD F (hide H d)) (n1 : ∀ b ∈ F, b ∉ cells c) (n2 : d ∉ F) (n3 : lr ∉ F) : LS p C CS d a sg lr c H' ps bs :=
  ⟨Dr.keep h.dr x n2, h.st.keep (hide_monoB x) hF n1, h.rw_.keep (hide_monoB x) hF n3, h.nl, h.mem⟩
theorem exB_nil (x : ExB [] H H') : Ex H H' := fun b o h => x b o (fun z => by cases z) h
end
section
variable {P : Program} {w : World} {K : PySem.W.Frag} {mg : Str → Option Value} {base : Heap} {σ : L2.St} {H B : Hp} {d : Addr} {C CS : Addr} {ec : EK → Addr}
def spLaw (K : PySem.W.Frag) : Sp := fun vs H Q _ => ∃ (a : Addr) (ns : List Int), vs = [.ref a] ∧ SqL K H a (ns.map V.int) ∧ ∀ H', Q (.bl true) H'
theorem scLaw : FnScope ["script", "draws", "capital", "k", "rest", "one", "many", "arity", "letter", "signature", "terms", "rows", "number", "steps", "j", "outer", "other", "inner", "filled"] ["script"] (defScope (topS 39)) := ⟨rfl, rfl, rfl, by decide +kernel, rfl, by decide +kernel, by decide +kernel⟩
theorem ok_law {f fdr ft fdi fmd fpu fsm fbu fte fsp fsg ftm fma fpi ffs fsh : Addr} {fd fddr fdt fddi fdmd fdpu fdsm fdbu fdte fdsp fdsg fdtm fdma fdpi fdfs fdsh : FuncData} {dma dpi dfs dsh : List Value} (D : DefAt K mg 39 "law" ["script"] f fd) (DR : GenAt P w K mg base 1 "_law_draws" ["script", "first", "cells"] (spDraws K) fdr fddr) (T : TakeAt P w K mg base ft fdt) (S : TermC K C)
    (DI : GenAt P w K mg base 2 "_law_digits" ["draws"] spDigits fdi fddi) (MD : GenAt P w K mg base 1 "_law_made" ["rows", "word", "places"] spMadeR fmd fdmd) (PU : GenAt P w K mg base 2 "_law_put" ["rows", "inner"] (spEx spPutR) fpu fdpu) (SM : GenAt P w K mg base 2 "_law_small" ["draws", "letter", "one", "many", "arity"] (spEx spSmall) fsm fdsm)
    (BU : GenAt P w K mg base 8 "_law_built" ["terms", "rows"] (spEx fun p => spBuilt p C CS) fbu fdbu) (TL : GenAt P w K mg base 4 "_law_tells" ["terms", "number", "rows", "letter"] (spEx fun p => spTells p C CS) fte fdte) (SP : GenAt P w K mg base 10 "_law_spoils" ["draws", "terms", "rows", "one", "many", "arity"] (spEx fun p => spSpoils p C CS) fsp fdsp)
    (SGK : MkC P w K mg base (L2N.CX P w) 3 "Signature" CS ["self", "sorts", "signs"] (spInit ec CS) fsg fdsg) (TMK : MkC P w K mg base CX0 1 "Terms" C ["self", "signature"] (spTInit C) ftm fdtm)
    (MA : MethAt P w K mg base CX0 7 C "make" ["self", "sign", "parts"] [] (spMake C CS) fma fdma dma) (PI : MethAt P w K mg base CX0 7 C "put_in" ["self", "term", "filling"] [] (spPutIn C CS) fpi fdpi dpi) (FS : MethAt P w K mg base (L2N.CX P w) 8 C "from_shared" ["self", "rows"] [] (spFromShared ec C CS) ffs fdfs dfs) (SH : MethAt P w K mg base CX0 1 C "shared" ["self", "term"] [] (spShared C) fsh fdsh dsh)
    (N : Nm mg) (M : NmS mg) : FnOk P w K mg base CX0 11 f fd ["script"] (spLaw K) := by
  refine D.F.ok scLaw (fun vs H Q E h => ?_) (fun cdv A outer s H vs Q E hr h => ?_)
  · obtain ⟨a, ns, rfl, _⟩ := h
    rfl
  · obtain ⟨a, ns, rfl, hS0, k⟩ := h
    refine ⟨_, (pss_cons (ps_asg (pe_call DR.F (hr.mono (by decide)) (by rfl) DR.g DR.kp DR.b .nil pass0 (pa_cons (pv 0) (pa_cons pe_int (pa_cons pe_int pa_nil)))) (pg_name (i := 1) scLaw.nd rfl (.inr rfl))) (pss_cons (ps_asg (pe_ix ix_str pe_str (pe_call T.F (hr.mono (by decide)) (by rfl) T.g T.kp T.b .nil pass0 (pa_cons (pv 1) (pa_cons pe_int pa_nil))) (fun _ _ => rfl)) (pg_name (i := 2) scLaw.nd rfl (.inl rfl))) (pss_cons (ps_asg (pe_joinS pe_str (pe_lc (own := [("k", 3)]) (g := gName 3) rfl scLaw.nd (pi_range1 (by rfl) M.range (pa_cons (pe_call T.F (hr.mono (by decide)) (by rfl) T.g T.kp T.b .nil pass0 (pa_cons (pv 1) (pa_cons pe_int pa_nil))) pa_nil)) (blkOk_by (own := [("k", 3)]) (N := ["script", "draws", "capital", "k", "rest", "one", "many", "arity", "letter", "signature", "terms", "rows", "number", "steps", "j", "outer", "other", "inner", "filled"]) (sc := defScope (topS 39)) (by decide +kernel)) (fun _ _ _ _ _ => pg_name (i := 3) scLaw.nd rfl (.inl rfl) (hf := .inr rfl)) (fun _ _ _ _ _ => pts_nil) (fun _ _ _ _ _ => (pe_ix ix_str pe_str (pe_call T.F (hr.mono (by decide)) (by rfl) T.g T.kp T.b .nil pass0 (pa_cons (pv 1) (pa_cons pe_int pa_nil))) (fun _ _ => rfl))))) (pg_name (i := 4) scLaw.nd rfl (.inr rfl))) (pss_cons (ps_asg (pe_op op_addS pe_str (pv 4)) (pg_name (i := 5) scLaw.nd rfl (.inl rfl))) (pss_cons (ps_asg (pe_op op_addS pe_str (pv 4)) (pg_name (i := 6) scLaw.nd rfl (.inl rfl))) (pss_cons (ps_asg (pe_op op_add pe_int (pe_call T.F (hr.mono (by decide)) (by rfl) T.g T.kp T.b .nil pass0 (pa_cons (pv 1) (pa_cons pe_int pa_nil)))) (pg_name (i := 7) scLaw.nd rfl (.inl rfl))) (pss_cons (ps_asg (pe_op op_addS (pv 2) (pe_call DI.F (hr.mono (by decide)) (by rfl) DI.g DI.kp DI.b .nil pass0 (pa_cons (pv 1) pa_nil))) (pg_name (i := 8) scLaw.nd rfl (.inl rfl))) (pss_cons (ps_asg (pe_make SGK.M SGK.F (hr.mono (by decide)) (by rfl) SGK.g SGK.b .nil passF (pa_cons (pe_lst (pa_cons (pe_tup (pa_cons (pe_op op_addS pe_str (pv 4)) (pa_cons (pv 2) pa_nil))) pa_nil)) (pa_cons (pe_lst (pa_cons (pe_tup (pa_cons (pv 5) (pa_cons (pe_lst (pa_cons (pe_op op_addS pe_str (pv 4)) pa_nil)) (pa_cons (pe_op op_addS pe_str (pv 4)) pa_nil)))) (pa_cons (pe_tup (pa_cons (pv 6) (pa_cons (pe_lc (own := [("k", 3)]) (g := gName 3) rfl scLaw.nd (pi_range1 (by rfl) M.range (pa_cons (pv 7) pa_nil)) (blkOk_by (own := [("k", 3)]) (N := ["script", "draws", "capital", "k", "rest", "one", "many", "arity", "letter", "signature", "terms", "rows", "number", "steps", "j", "outer", "other", "inner", "filled"]) (sc := defScope (topS 39)) (by decide +kernel)) (fun _ _ _ _ _ => pg_name (i := 3) scLaw.nd rfl (.inl rfl) (hf := .inr rfl)) (fun _ _ _ _ _ => pts_nil) (fun _ _ _ _ _ => (pe_op op_addS pe_str (pv 4)))) (pa_cons (pe_op op_addS pe_str (pv 4)) pa_nil)))) pa_nil))) pa_nil))) (pg_name (i := 9) scLaw.nd rfl (.inl rfl))) (pss_cons (ps_asg (pe_make TMK.M TMK.F (hr.mono (by decide)) (by rfl) TMK.g TMK.b .nil pass0 (pa_cons (pv 9) pa_nil)) (pg_name (i := 10) scLaw.nd rfl (.inl rfl))) (pss_cons (ps_asg (pe_call SM.F (hr.mono (by decide)) (by rfl) SM.g SM.kp SM.b .nil pass0 (pa_cons (pv 1) (pa_cons (pv 8) (pa_cons (pv 5) (pa_cons (pv 6) (pa_cons (pv 7) pa_nil)))))) (pg_name (i := 11) scLaw.nd rfl (.inr rfl))) (pss_cons (ps_asg (pe_call BU.F (hr.mono (by decide)) (by rfl) BU.g BU.kp BU.b .nil pass0 (pa_cons (pv 10) (pa_cons (pv 11) pa_nil))) (pg_name (i := 12) scLaw.nd rfl (.inr rfl))) (pss_cons (ps_asg (pe_call T.F (hr.mono (by decide)) (by rfl) T.g T.kp T.b .nil pass0 (pa_cons (pv 1) (pa_cons pe_int pa_nil))) (pg_name (i := 13) scLaw.nd rfl (.inl rfl))) (pss_cut (ps_if (pt_cmpR op_eq (pe_call T.F (hr.mono (by decide)) (by rfl) T.g T.kp T.b .nil pass0 (pa_cons (pv 1) (pa_cons pe_int pa_nil))) pe_int (nomark _)) (pss_one (ps_asg (pe_call T.F (hr.mono (by decide)) (by rfl) T.g T.kp T.b .nil pass0 (pa_cons (pv 1) (pa_cons pe_int pa_nil))) (pg_name (i := 13) scLaw.nd rfl (.inl rfl)))) pss_nil) (pss_cons (ps_for PassesOwn.never rfl (pi_range1 (by rfl) M.range (pa_cons (pv 13) pa_nil)) (pg_name (i := 3) scLaw.nd rfl (.inl rfl)) (pss_one (ps_if (pt_cmpR op_gt (pe_call T.F (hr.mono (by decide)) (by rfl) T.g T.kp T.b .nil pass0 (pa_cons (pv 1) (pa_cons pe_int pa_nil))) pe_int (nomark _)) (pss_cons (ps_expr (pe_call MD.F (hr.mono (by decide)) (by rfl) MD.g MD.kp MD.b .nil pass0 (pa_cons (pv 11) (pa_cons (pv 6) (pa_cons (pe_lc (own := [("j", 14)]) (g := gName 14) rfl scLaw.nd (pi_range1 (by rfl) M.range (pa_cons (pv 7) pa_nil)) (blkOk_by (own := [("j", 14)]) (N := ["script", "draws", "capital", "k", "rest", "one", "many", "arity", "letter", "signature", "terms", "rows", "number", "steps", "j", "outer", "other", "inner", "filled"]) (sc := defScope (topS 39)) (by decide +kernel)) (fun _ _ _ _ _ => pg_name (i := 14) scLaw.nd rfl (.inl rfl) (hf := .inr rfl)) (fun _ _ _ _ _ => pts_nil) (fun _ _ _ _ _ => (pe_op op_sub (pe_callB (r := rLenS K) call_len_seq (by rfl) N.len PySem.boot_len (pa_cons (pv 11) pa_nil)) pe_int))) pa_nil))))) (pss_one (ps_asg (pe_meth (pv 10) S.cl MA.m MA.F (hr.mono (by decide)) MA.b MA.v pass0 (pa_cons (pv 6) (pa_cons (pe_lc (own := [("j", 14)]) (g := gName 14) rfl scLaw.nd (pi_range1 (by rfl) M.range (pa_cons (pv 7) pa_nil)) (blkOk_by (own := [("j", 14)]) (N := ["script", "draws", "capital", "k", "rest", "one", "many", "arity", "letter", "signature", "terms", "rows", "number", "steps", "j", "outer", "other", "inner", "filled"]) (sc := defScope (topS 39)) (by decide +kernel)) (fun _ _ _ _ _ => pg_name (i := 14) scLaw.nd rfl (.inl rfl) (hf := .inr rfl)) (fun _ _ _ _ _ => pts_nil) (fun _ _ _ _ _ => (pv 12))) pa_nil))) (pg_name (i := 12) scLaw.nd rfl (.inr rfl))))) (pss_cons (ps_asg (pe_call SM.F (hr.mono (by decide)) (by rfl) SM.g SM.kp SM.b .nil pass0 (pa_cons (pv 1) (pa_cons (pv 8) (pa_cons (pv 5) (pa_cons (pv 6) (pa_cons (pv 7) pa_nil)))))) (pg_name (i := 15) scLaw.nd rfl (.inl rfl))) (pss_cons (ps_asg (pe_meth (pv 10) S.cl PI.m PI.F (hr.mono (by decide)) PI.b PI.v pass0 (pa_cons (pe_call BU.F (hr.mono (by decide)) (by rfl) BU.g BU.kp BU.b .nil pass0 (pa_cons (pv 10) (pa_cons (pv 15) pa_nil))) (pa_cons (pe_disp (pps_cons (pv 8) (pv 12) pps_nil) (by rfl) (by rfl) (fun z => by cases z) (by decide)) pa_nil))) (pg_name (i := 12) scLaw.nd rfl (.inr rfl))) (pss_one (ps_asg (pe_call PU.F (hr.mono (by decide)) (by rfl) PU.g PU.kp PU.b .nil pass0 (pa_cons (pv 15) (pa_cons (pv 11) pa_nil))) (pg_name (i := 11) scLaw.nd rfl (.inr rfl))))))))) (pss_cons (ps_if (pt_not (pt_val (pe_call TL.F (hr.mono (by decide)) (by rfl) TL.g TL.kp TL.b .nil pass0 (pa_cons (pv 10) (pa_cons (pv 12) (pa_cons (pv 11) (pa_cons (pv 8) pa_nil))))))) (pss_one (ps_ret pe_bl)) pss_nil) (pss_cons (ps_asg (pe_make TMK.M TMK.F (hr.mono (by decide)) (by rfl) TMK.g TMK.b .nil pass0 (pa_cons (pv 9) pa_nil)) (pg_name (i := 16) scLaw.nd rfl (.inl rfl))) (pss_cons (ps_if (pt_not (pt_val (pe_call TL.F (hr.mono (by decide)) (by rfl) TL.g TL.kp TL.b .nil pass0 (pa_cons (pv 16) (pa_cons (pe_meth (pv 16) S.cl FS.m FS.F (hr.mono (by decide)) FS.b FS.v passF (pa_cons (pe_meth (pv 10) S.cl SH.m SH.F (hr.mono (by decide)) SH.b SH.v pass0 (pa_cons (pv 12) pa_nil)) pa_nil)) (pa_cons (pv 11) (pa_cons (pv 8) pa_nil))))))) (pss_one (ps_ret pe_bl)) pss_nil) (pss_cons (ps_asg (pe_call SM.F (hr.mono (by decide)) (by rfl) SM.g SM.kp SM.b .nil pass0 (pa_cons (pv 1) (pa_cons (pv 8) (pa_cons (pv 5) (pa_cons (pv 6) (pa_cons (pv 7) pa_nil)))))) (pg_name (i := 17) scLaw.nd rfl (.inl rfl))) (pss_cons (ps_asg (pe_meth (pv 10) S.cl PI.m PI.F (hr.mono (by decide)) PI.b PI.v pass0 (pa_cons (pv 12) (pa_cons (pe_disp (pps_cons (pv 8) (pe_call BU.F (hr.mono (by decide)) (by rfl) BU.g BU.kp BU.b .nil pass0 (pa_cons (pv 10) (pa_cons (pv 17) pa_nil))) pps_nil) (by rfl) (by rfl) (fun z => by cases z) (by decide)) pa_nil))) (pg_name (i := 18) scLaw.nd rfl (.inl rfl))) (pss_one (ps_ret (pe_and (pe_call TL.F (hr.mono (by decide)) (by rfl) TL.g TL.kp TL.b .nil pass0 (pa_cons (pv 10) (pa_cons (pv 18) (pa_cons (pe_call PU.F (hr.mono (by decide)) (by rfl) PU.g PU.kp PU.b .nil pass0 (pa_cons (pv 11) (pa_cons (pv 17) pa_nil))) (pa_cons (pv 8) pa_nil))))) (pe_one (pe_call SP.F (hr.mono (by decide)) (by rfl) SP.g SP.kp SP.b .nil pass0 (pa_cons (pv 1) (pa_cons (pv 16) (pa_cons (pv 11) (pa_cons (pv 5) (pa_cons (pv 6) (pa_cons (pv 7) pa_nil)))))))))))))))))))))))))))))), ?_⟩
    refine ⟨.ref a, rfl, a, ns, rfl, hS0, fun d H1 xs hd0 e1 h1 gd => ?_⟩
    have dr1 : Dr H1 d := ⟨xs, gd, h1⟩
    -- capital, rest
    refine gq_asg (B := KD.hide H1 d) (d := d) (R := fun v _ => ∃ c, v = .str ⟨#[c]⟩ ∧ c ∈ tl capitals) (eg_signN (n := 26) (w := capitals) ev_c (eg_takeN (m := 26) (ev_var rfl) ev_c (by decide)) (by decide) (by decide)) (Sd.of dr1) fun v B2 H2 e2 s2 r => ?_
    obtain ⟨cc, rfl, hcc⟩ := r
    refine gq_asg (R := fun u _ => ∃ x, u = .str x ∧ 0 ≤ (tl x).length ∧ (tl x).length ≤ 22 ∧ ∀ z ∈ tl x, z ∈ tl ("xyz05" : Str)) (eg_joinC (S := tl ("xyz05" : Str)) ev_c (by omega) (eg_lcR2 (n1 := 0) (n0 := 22) (Kp := fun x => ∃ c, x = .str ⟨#[c]⟩ ∧ c ∈ tl ("xyz05" : Str)) (ega_sd (ega_one (eg_takeN (m := 23) (ev_var rfl) ev_c (by decide))) fun us B' _ r => by
      obtain ⟨v, rfl, n, rfl, hn⟩ := r
      exact ⟨n, rfl, Nat.zero_le _, by omega⟩) (by omega) (fun _ => rfl) fun i B2 _ => eg_signN (n := 5) (w := ("xyz05" : Str)) ev_c (eg_takeN (m := 5) (ev_var rfl) ev_c (by decide)) (by decide) (by decide))) s2 fun v B3 H3 e3 s3 r => ?_
    obtain ⟨rs, rfl, _, hrl, hral⟩ := r
    have hrs : rs.length ≤ 22 := by rw [len_tl]; exact hrl
    refine q_asg (v := .str ("p" ++ rs)) (ev_op ev_c (ev_var rfl) (rv_addS (by show 1 + rs.length ≤ 1000000; omega))) fun H4 e4 => ?_
    refine q_asg (v := .str ("q" ++ rs)) (ev_op ev_c (ev_var rfl) (rv_addS (by show 1 + rs.length ≤ 1000000; omega))) fun H5 e5 => ?_
    refine gq_asg (R := fun v _ => ∃ n : Nat, v = .int ((1 + n : Nat) : Int) ∧ n < 4) (eg_opV ev_c (eg_takeN (m := 4) (ev_var rfl) ev_c (by decide)) fun y B' _ hy => by
      obtain ⟨n, rfl, hn⟩ := hy
      exact ⟨_, rv_I0, n, by congr 1, by omega⟩) ((s3.mono e4).mono e5) fun v B6 H6 e6 s6 r => ?_
    obtain ⟨n, rfl, hn4⟩ := r
    refine gq_asg (R := fun v _ => ∃ x, v = .str (⟨#[cc]⟩ ++ x) ∧ DigOk x) (eg_opV (ev_var rfl) (eg_call (R := fun v _ => ∃ x : Str, v = .str x ∧ DigOk x) (ega_lift (ea_cons (ev_var rfl) ea_nil)) (fun us B1 H1 _ h _ => ⟨[], h.1, rfl⟩) (fun rest B1 B2 v _ _ _ hc => hc)) fun y B' _ hy => by
      obtain ⟨x, rfl, hx⟩ := hy
      exact ⟨_, rv_addS (by have := hx.l2; rw [← len_tl] at this; show 1 + x.length ≤ 1000000; omega), x, rfl, hx⟩) s6 fun v B7 H7 e7 s7 r => ?_
    obtain ⟨x, rfl, hx⟩ := r
    obtain ⟨hp, hff, hl1, hl2⟩ := par_ok hcc hx hrl hral hn4
    generalize hpe : parOf cc n x rs = p at hp hff hl1 hl2
    have q1 : "p" ++ rs = p.one := by rw [← hpe]; rfl
    have q2 : "q" ++ rs = p.many := by rw [← hpe]; rfl
    have q3 : (⟨#[cc]⟩ : Str) ++ x = p.lt := by rw [← hpe]; rfl
    have q4 : "s" ++ rs = p.srt := by rw [← hpe]; rfl
    have q5 : (⟨#[cc]⟩ : Str) = p.cap := by rw [← hpe]; rfl
    have q6 : 1 + n = p.ar := by rw [← hpe]; rfl
    have hso : ∀ {G : Hp} {σ : L2.St}, σ[4]? = some (some (.str rs)) → Ev (tOp rAddS (tC (.str "s")) (tVar 4)) σ G (.str p.srt) := fun h => ev_is (ev_op ev_c (ev_var h) (rv_addS (by show 1 + rs.length ≤ 1000000; omega))) (by rw [q4])
    -- the signature, the store
    refine q_asgR (er_mkSig hp hff hl1 hl2 (er_row (hso rfl) (ev_is (ev_var rfl) (by rw [q5]))) fun G _ => er_sgns (er_sgn (ev_is (ev_var rfl) (by rw [q1])) (el_lst (ea_cons (hso rfl) ea_nil) (by show 1 ≤ 100000; decide)) (hso rfl)) fun G _ => er_sgn (ev_is (ev_var rfl) (by rw [q2])) (by
      have h0 := el_lcRM (te := tOp rAddS (tC (.str "s")) (tVar 4)) (ta := tCons (tVar 7) tNil) (j := 3) (vs := [3]) (σ := [some (.ref a), some (.ref d), some (.str ⟨#[cc]⟩), none, some (.str rs), some (.str ("p" ++ rs)), some (.str ("q" ++ rs)), some (.int ((1 + n : Nat) : Int)), some (.str (⟨#[cc]⟩ ++ x)), none, none, none, none, none, none, none, none, none, none]) (H := G) (List.replicate p.ar ()) (fun _ => V.str p.srt) (ea_cons (ev_is (ev_var rfl) (by rw [List.length_replicate, q6])) ea_nil) (by have := hp.ar4; simp; omega) (fun _ => rfl) (fun m r G g _ => hso rfl)
      rw [List.map_replicate] at h0
      show EvL _ _ G ((List.replicate p.ar p.srt).map V.str)
      rw [List.map_replicate]
      exact h0) (hso rfl)) fun v H8 e8 r => ?_
    obtain ⟨sg, rfl, hG8⟩ := r
    have s8 := s7.mono e8
    refine q_asgR (er_mkT hG8 (ev_var rfl)) fun v H9 e9 r => ?_
    obtain ⟨t, c, rfl, hP9, hc9⟩ := r
    have s9 := s8.mono e9
    have nd9 : d ∉ cells c := fun z => by
      obtain ⟨ys, _, hy⟩ := s8.dr
      rw [hc9 d z] at hy
      cases hy
    have hP9' := hP9.hide (Dr.lst s9.dr) nd9
    rw [q1, q2, q3, q6, q5]
    -- rows, number
    refine gq_asg (B := KD.hide H9 d) (d := d) (eg_small hp (ea_cons (ev_var rfl) (ea_cons (ev_var rfl) (ea_cons (ev_var rfl) (ea_cons (ev_var rfl) (ea_cons (ev_var rfl) ea_nil)))))) (Sd.of s9.dr) fun v B10 H10 e10 s10 r => ?_
    obtain ⟨lr, bs0, rfl, nlr, hR10, hb0⟩ := r
    have hP10 : PSt p C CS (KD.hide H10 d) t sg c [] := hP9'.mono (e10.trans s10.below)
    have nl10 : lr ∉ cells c := fresh_nin hP9'.st nlr
    refine q_asgP (tp_built hp (hP10.mono hide_ex) (hR10.mono s10.ex) nl10 (by omega) (by rw [List.length_nil]; omega) (ev_var rfl) (ev_var rfl)) fun v H11 x11 r => ?_
    obtain ⟨ps11, rfl, m11, hm11, hl11, hP11⟩ := r
    rw [List.length_nil] at hl11
    have L11 : LS p C CS d t sg lr c H11 ps11 bs0 := ⟨Dr.keep s10.dr x11 hP10.ndr, hP10.step s10.dr x11 hP11, (hR10.mono s10.below).keep (hide_monoB x11) (cells_ld hP10.st) nl10, nl10, hm11⟩
    clear hP9 hP9' hc9 hP10 hP11 hR10
    -- steps
    refine gq_asg (R := fun v _ => ∃ n : Nat, v = .int (n : Int) ∧ (n : Int) < 9) (eg_takeN (m := 9) (ev_var rfl) ev_c (by decide)) (Sd.of L11.dr) fun v B12 H12 e12 s12 r => ?_
    obtain ⟨n9, rfl, hn9⟩ := r
    have L12 := L11.sd e12 s12
    refine q_cut (M := fun σ' H' => ∃ n : Nat, n ≤ 120 ∧ σ' = [some (.ref a), some (.ref d), some (.str p.cap), none, some (.str rs), some (.str p.one), some (.str p.many), some (.int (p.ar : Int)), some (.str p.lt), some (.ref sg), some (.ref t), some (.ref lr), some (.int (ps11.idxOf bs0 : Int)), some (.int (n : Int)), none, none, none, none, none] ∧ LS p C CS d t sg lr c H' ps11 bs0) ?_ fun σ' H13 r => ?_
    · refine g_if (B := KD.hide H12 d) (d := d) (Rt := fun _ _ => True) (egt_test (R := fun v _ => ∃ b, v = .bl b) (eg_opW (Rb := fun v _ => ∃ n : Nat, v = .int (n : Int) ∧ (n : Int) < 3) (eg_takeN (m := 3) (ev_var rfl) ev_c (by decide)) (fun _ _ _ _ => ev_c) fun u B3 _ hu => ?_) fun v B3 _ hv => ?_) (Sd.of L12.dr) (fun B3 H3 e3 s3 _ => ?_) (fun B3 H3 e3 s3 _ => ?_)
      · obtain ⟨n, rfl, _⟩ := hu
        exact ⟨_, rv_eq rfl, _, rfl⟩
      · obtain ⟨b, rfl⟩ := hv
        exact ⟨b, rfl, trivial⟩
      · refine g_asg (R := fun v _ => ∃ n : Nat, v = .int (n : Int) ∧ (n : Int) < 121) (eg_takeN (m := 121) (ev_var rfl) ev_c (by decide)) s3 fun v B4 H4 e4 s4 r => ?_
        obtain ⟨k1, rfl, hk⟩ := r
        exact ⟨k1, by omega, rfl, L12.sd (e3.trans e4) s4⟩
      · exact ⟨n9, by omega, rfl, L12.sd e3 s3⟩
    obtain ⟨st, hst, rfl, L13⟩ := r
    refine g_range (j := 3) (n := st) (d := d) (B := KD.hide H13 d) (ea_cons (ev_var rfl) ea_nil) (Sd.of L13.dr) (by omega) (fun i σ' H' => ∃ (lr : Addr) (ps : List Pth) (bs : Pth) (u3 u14 u15 : Option V), σ' = [some (.ref a), some (.ref d), some (.str p.cap), u3, some (.str rs), some (.str p.one), some (.str p.many), some (.int (p.ar : Int)), some (.str p.lt), some (.ref sg), some (.ref t), some (.ref lr), some (.int (ps.idxOf bs : Int)), some (.int (st : Int)), u14, u15, none, none, none] ∧ LS p C CS d t sg lr c H' ps bs ∧ bs.length ≤ 3 + 3 * i ∧ ps.length ≤ 10 + 10 * i)
      (fun H' s => ⟨lr, ps11, bs0, none, none, none, rfl, L13.sd (Ex.refl _) s, by omega, by omega⟩) (fun i σ' H14 hi r => ?_) (fun σ' H14 r => ?_)
    · obtain ⟨lr, ps, bs, u3, u14, u15, rfl, L, hbl, hpl⟩ := r
      show tIfS _ _ _ _ [some (.ref a), some (.ref d), some (.str p.cap), some (.int (i : Int)), some (.str rs), some (.str p.one), some (.str p.many), some (.int (p.ar : Int)), some (.str p.lt), some (.ref sg), some (.ref t), some (.ref lr), some (.int (ps.idxOf bs : Int)), some (.int (st : Int)), u14, u15, none, none, none] H14
      refine g_if (B := KD.hide H14 d) (d := d) (Rt := fun _ _ => True) (egt_test (R := fun v _ => ∃ b, v = .bl b) (eg_opW (Rb := fun v _ => ∃ n : Nat, v = .int (n : Int) ∧ (n : Int) < 3) (eg_takeN (m := 3) (ev_var rfl) ev_c (by decide)) (fun _ _ _ _ => ev_c) fun u B3 _ hu => ?_) fun v B3 _ hv => ?_) (Sd.of L.dr) (fun B3 H3 e3 s3 _ => ?_) (fun B3 H3 e3 s3 _ => ?_)
      · obtain ⟨n, rfl, _⟩ := hu
        exact ⟨_, rv_I0, _, rfl⟩
      · obtain ⟨b, rfl⟩ := hv
        exact ⟨b, rfl, trivial⟩
      · -- one more sign
        have L3 := L.sd e3 s3
        obtain ⟨ads, hlr, hRT⟩ := L3.frw
        have hal : ads.length = bs.length + 1 := by rw [hRT.len, rows_len]
        have rep : ∀ {te : L2.TE} {G : Hp} {k : Nat} {σ : L2.St}, σ[7]? = some (some (.int (p.ar : Int))) → (∀ x, wipe ((wipe σ [14]).set 14 (some x)) [14] = wipe σ [14]) → (wipe σ [14])[7]? = some (some (.int (p.ar : Int))) → (∀ (m : Nat) G', Ex G G' → Ev te ((wipe σ [14]).set 14 (some (.int (m : Int)))) G' (.int (k : Int))) → EvL (tLc (iRng1 (tCons (tVar 7) tNil)) (gName 14) tYes te [14]) σ G (nV (List.replicate (p.a1 true) k)) := by
          intro te G k σ h7 hw h7' he
          have h0 := el_lcRM (te := te) (ta := tCons (tVar 7) tNil) (j := 14) (vs := [14]) (σ := σ) (H := G) (List.replicate p.ar ()) (fun _ => V.int (k : Int)) (ea_cons (ev_is (ev_var h7) (by rw [List.length_replicate])) ea_nil) (by have := hp.ar4; simp; omega) hw (fun m r G' g _ => he m G' g)
          rw [List.map_replicate] at h0
          rw [nV_rep]
          exact h0
        refine ep_madeR (b := true) hp hlr hRT (by omega) (ev_var rfl) (ev_var rfl) (rep rfl (fun _ => rfl) rfl fun m G g => ev_is (ev_op (ev_len (ev_var rfl) (sq_of (g _ _ hlr))) ev_c rv_I0) (by rw [List.length_map, hal]; congr 1; omega)) _ fun q H4 nq x4 hl4 hq4 hR4 => ?_
        obtain ⟨ys, hys⟩ := L3.rw_.some
        have nlF : ∀ b ∈ [lr], b ∉ cells c := fun b hb => by rw [List.mem_singleton.mp hb]; exact L.nl
        have ndl : d ∉ [lr] := fun z => L3.rw_.nd (List.mem_singleton.mp z).symm
        have dr4 := Dr.keep L3.dr x4 ndl
        have hP4 : PSt p C CS (KD.hide H4 d) t sg c ps := L3.st.keep (hide_monoB x4) (LD.one hys) nlF
        have hR4' : Rw p (KD.hide H4 d) lr (bs ++ [true]) := Rw.hide ⟨_, hl4, hR4⟩ (Dr.lst dr4) L3.rw_.nd
        refine s_asgP (tp_make (b := true) hp (hP4.mono hide_ex) (by omega) L.mem (ev_var rfl) (ev_var rfl) (rep rfl (fun _ => rfl) rfl fun m G g => ev_var rfl)) fun v H5 x5 r => ?_
        obtain ⟨ps5, rfl, m5, hm5, hl5, hP5⟩ := r
        exact ⟨lr, ps5, bs ++ [true], _, _, _, rfl, ⟨Dr.keep dr4 x5 hP4.ndr, hP4.step dr4 x5 hP5, hR4'.keep (hide_monoB x5) (cells_ld hP4.st) L.nl, L.nl, hm5⟩, by rw [List.length_append, List.length_singleton]; omega, by omega⟩
      · -- put in an outer term
        have L3 := L.sd e3 s3
        refine gq_asg (B := KD.hide H3 d) (d := d) (eg_small hp (ea_cons (ev_var rfl) (ea_cons (ev_var rfl) (ea_cons (ev_var rfl) (ea_cons (ev_var rfl) (ea_cons (ev_var rfl) ea_nil)))))) (Sd.of L3.dr) fun v B4 H4 e4 s4 r => ?_
        obtain ⟨lo, bo, rfl, nlo, hRo, hbo⟩ := r
        have L4 := L3.sd e4 s4
        have nlo' : lo ∉ cells c := fresh_nin L3.st.st nlo
        refine q_asgP (tp_put_in (n1 := bo.length + 1) (n2 := 0) (bi := bs) hp L4.full (by omega) (by omega) (ev_var rfl) (tp_built hp L4.full (hRo.mono s4.ex) nlo' (by omega) (by omega) (ev_var rfl) (ev_var rfl)) (fun G x => ev_var rfl) fun G ps1 x m l hP1 => tp_var hP1 (m.sub _ L.mem).1 (ev_is (ev_var rfl) (by rw [(m.sub _ L.mem).2]))) fun v H5 x5 r => ?_
        obtain ⟨ps5, rfl, m5, hm5, hl5, hP5⟩ := r
        have L5 := L4.go x5 hP5 m5
        have hRo5 : Rw p (KD.hide H5 d) lo bo := (hRo.mono s4.below).keep (hide_monoB x5) (cells_ld L4.st.st) nlo'
        refine s_asgR (er_putR hp (hRo5.mono hide_ex) L5.frw (ev_var rfl) (ev_var rfl) (by omega) (by omega)) fun v H6 e6 r => ?_
        obtain ⟨lq, rfl, nlq, hRq⟩ := r
        have hq6 : lq ≠ d := fun z => by
          obtain ⟨ys, hy⟩ := (Dr.lst L5.dr)
          rw [← z, nlq] at hy
          cases hy
        have L6 := (L5.ex e6).rows (hRq.hide (Dr.lst (L5.ex e6).dr) hq6) (fresh_nin L5.full.st nlq) hm5
        exact ⟨lq, ps5, bs ++ bo, _, _, _, rfl, L6, by rw [List.length_append]; omega, by omega⟩
    · obtain ⟨lr, ps, bs, u3, u14, u15, rfl, L, hbl, hpl⟩ := r
      -- what the store tells
      refine q_whenP (F := []) (R := fun _ => True) (etp_not (b := true) (etp_B ((ep_tells (N := 40000) hp (Nat.le_refl _) (by omega) (ev_var rfl) (evp_of (ev_var rfl) fun G e => ⟨ps, rfl, L.mem, by omega, L.full.mono e⟩) (fun G x => er_ev (ev_var rfl) fun G' e => ⟨lr, rfl, (L.frw.mono (exB_nil x)).mono e⟩) fun G _ => ev_var rfl).imp fun v G x r => ⟨r.1, trivial⟩))) fun H15 x15 _ => ?_
      have L15 := L.ex (exB_nil x15)
      refine q_asgR (er_mkT L15.full.sig (ev_var rfl)) fun v H16 e16 r => ?_
      obtain ⟨t2, c2, rfl, hQ16, hc2⟩ := r
      have L16 := L15.ex e16
      have dj : ∀ b ∈ cells c2, b ∉ cells c := fun b hb => fresh_nin L15.full.st (hc2 b hb)
      have nd2 : d ∉ cells c2 := fun z => by
        obtain ⟨ys, hy⟩ := (Dr.lst L15.dr)
        rw [hc2 d z] at hy
        cases hy
      have nl2 : lr ∉ cells c2 := fun z => by
        obtain ⟨ys, hy⟩ := L15.frw.some
        rw [hc2 lr z] at hy
        cases hy
      have hQ16' := hQ16.hide (Dr.lst L16.dr) nd2
      -- told by another store
      refine q_whenP (F := cells c2) (R := fun G => ∃ ps', bs ∈ ps' ∧ ps'.length ≤ bs.length + 1 ∧ PSt p C CS G t2 sg c2 ps') (etp_not (b := true) (etp_B (ep_tells (N := bs.length + 1) hp (by omega) (by omega) (ev_var rfl) (tp_back hp L16.full L16.mem (by omega) (by omega) hQ16 (ev_var rfl) (ev_var rfl) (ev_var rfl)) (fun G x => er_ev (ev_var rfl) fun G' e => ⟨lr, rfl, (L16.frw.keep x (cells_ld hQ16.st) nl2).mono e⟩) fun G _ => ev_var rfl))) fun H17 x17 r => ?_
      obtain ⟨ps2, _, hl2', hQ17⟩ := r
      have L17 := L16.keep x17 (cells_ld hQ16'.st) dj nd2 nl2
      have hQ17' := hQ16'.step L16.dr x17 hQ17
      -- an inner term put in
      refine gq_asg (B := KD.hide H17 d) (d := d) (eg_small hp (ea_cons (ev_var rfl) (ea_cons (ev_var rfl) (ea_cons (ev_var rfl) (ea_cons (ev_var rfl) (ea_cons (ev_var rfl) ea_nil)))))) (Sd.of L17.dr) fun v B18 H18 e18 s18 r => ?_
      obtain ⟨li, bi, rfl, nli, hRi, hbi⟩ := r
      have L18 := L17.sd e18 s18
      have hQ18 : PSt p C CS (KD.hide H18 d) t2 sg c2 ps2 := hQ17'.mono (e18.trans s18.below)
      have nli' : li ∉ cells c := fresh_nin L17.st.st nli
      refine q_asgP (tp_put_in (n1 := 0) (n2 := bi.length + 1) (bi := bi) (bo := bs) hp L18.full (by omega) (by omega) (ev_var rfl) (tp_var L18.full L18.mem (ev_var rfl)) (fun G x => ev_var rfl) fun G ps1 x m l hP1 => tp_built hp hP1 ((hRi.mono s18.ex).keep x (cells_ld L18.full.st) nli') nli' (by omega) (by omega) (ev_var rfl) (ev_var rfl)) fun v H19 x19 r => ?_
      obtain ⟨ps19, rfl, m19, hm19, hl19, hP19⟩ := r
      have L19 := L18.go x19 hP19 m19
      have hRi19 : Rw p (KD.hide H19 d) li bi := (hRi.mono s18.below).keep (hide_monoB x19) (cells_ld L18.st.st) nli'
      have hQ19 : PSt p C CS (KD.hide H19 d) t2 sg c2 ps2 := hQ18.keep (hide_monoB x19) (cells_ld L18.st.st) fun b hb hb2 => dj b hb2 hb
      -- the last two tests
      refine (ep_tells (F := []) (N := 40000) hp (Nat.le_refl _) (by rw [List.length_append]; omega) (ev_var rfl) (evp_of (ev_var rfl) fun G e => ⟨ps19, rfl, hm19, by omega, L19.full.mono e⟩) (fun G x => EvR.imp (er_putR hp (L19.frw.mono (exB_nil x)) ((hRi19.mono hide_ex).mono (exB_nil x)) (ev_var rfl) (ev_var rfl) (by omega) (by omega)) fun v G' r => ?_) fun G _ => ev_var rfl) H19 (Ex.refl H19) _ fun v H20 x20 r => ?_
      · obtain ⟨q, z1, _, z2⟩ := r
        exact ⟨q, z1, z2⟩
      obtain ⟨rfl, _⟩ := r
      have L20 := L19.ex (exB_nil x20)
      have hQ20 := hQ19.mono (hide_mono (exB_nil x20))
      refine ⟨true, rfl, ?_⟩
      rw [if_pos rfl]
      refine (ea_cons (ev_var rfl) (ea_cons (ev_var rfl) (ea_cons (ev_var rfl) (ea_cons (ev_var rfl) (ea_cons (ev_var rfl) (ea_cons (ev_var rfl) ea_nil)))))) H20 (Ex.refl H20) _ fun H21 e21 => ?_
      have L21 := L20.ex e21
      obtain ⟨ads, g1, g2⟩ := L21.rw_
      exact ⟨p, hp, d, t2, sg, lr, c2, ps2, ads, bs, rfl, L21.dr, hQ20.mono (hide_mono e21), g1, g2, nl2, by omega, by omega, fun H' => k H'⟩
end
end K87
-- M
namespace K87
open PySem PySem.Spec PyProof.Rows L2 KSup
/-! what the top has written -/
/-- a def that the top has written: found, as it stands -/
structure Wrt (K : PySem.W.Frag) (i : Nat) (x : Str) (f : Addr) (fd : FuncData) : Prop where
  a : PySem.W.nsIn K mainGlobals x = some (some (.ref f))
  l : ∃ (oc : Value) (od : Option Addr) (kV doc pm : Value) (an : Option Addr) (cdv ct : Value) (osl : Array (Option Value)), fd = PySem.W.fnOf x x (defArgs (topS i)) (defBody (topS i)) (defScope (topS i)) .none kV doc pm an cdv ct ∧ K.lookup f = some ⟨oc, od, .func fd, osl⟩ ∧ PySem.W.codeIn K cdv x = true
  k : PySem.W.keepIn K (.ref f) = true
theorem Wrt.at_ {K : PySem.W.Frag} {h : Heap} {mg : Str → Option Value} {i : Nat} {x : Str} {ps : List Str} {f : Addr} {fd : FuncData} (W : Wrt K i x f fd) (X : K.In h) (G : h.Ns mainGlobals mg)
    (hb : ∀ (kV doc pm : Value) (an : Option Addr) (cdv ct : Value) (us : List Value), us.length = ps.length → bindArgs (PySem.W.fnOf x x (defArgs (topS i)) (defBody (topS i)) (defScope (topS i)) .none kV doc pm an cdv ct) ⟨us, []⟩ = pure (ps.zip us)) : DefAt K mg i x ps f fd := by
  have F : Fun K x x (topS i) f fd := ⟨W.l, W.k⟩
  exact ⟨F, PySem.W.mg_of X G W.a, F.binds hb⟩
/-- a method of the class at C -/
structure WrM (K : PySem.W.Frag) (C : Addr) (st : Stmt) (m qn : Str) (f : Addr) (fd : FuncData) : Prop where
  a : PySem.W.findIn K (.ref C) m = some (some (.ref f))
  i : PySem.W.isFn K (.ref f) = true
  l : ∃ (oc : Value) (od : Option Addr) (kV doc pm : Value) (an : Option Addr) (cdv ct : Value) (osl : Array (Option Value)), fd = PySem.W.fnOf m qn (defArgs st) (defBody st) (defScope st) .none kV doc pm an cdv ct ∧ K.lookup f = some ⟨oc, od, .func fd, osl⟩ ∧ PySem.W.codeIn K cdv qn = true
  k : PySem.W.keepIn K (.ref f) = true
theorem WrM.m {K : PySem.W.Frag} {C : Addr} {st : Stmt} {m qn : Str} {f : Addr} {fd : FuncData} (W : WrM K C st m qn f fd) : Meth K C m f := ⟨W.a, W.i, W.k⟩
theorem WrM.F {K : PySem.W.Frag} {C : Addr} {st : Stmt} {m qn : Str} {f : Addr} {fd : FuncData} (W : WrM K C st m qn f fd) : Fun K m qn st f fd := ⟨W.l, W.k⟩
/-- a def with one default -/
structure WrD (K : PySem.W.Frag) (st : Stmt) (x qn : Str) (v : V) (f : Addr) (fd : FuncData) : Prop where
  l : ∃ (oc : Value) (od : Option Addr) (tp : Addr) (kV doc pm : Value) (an : Option Addr) (cdv ct : Value) (osl : Array (Option Value)) (oT : Value) (dT : Option Addr) (u : Value) (nT : Nat) (sT : Array (Option Value)), fd = PySem.W.fnOf x qn (defArgs st) (defBody st) (defScope st) (.ref tp) kV doc pm an cdv ct ∧ K.lookup f = some ⟨oc, od, .func fd, osl⟩ ∧ PySem.W.codeIn K cdv qn = true ∧ K.lookup tp = some ⟨oT, dT, .seq #[u] nT, sT⟩ ∧ RelV v u
  k : PySem.W.keepIn K (.ref f) = true
theorem WrD.F {K : PySem.W.Frag} {st : Stmt} {x qn : Str} {v : V} {f : Addr} {fd : FuncData} (W : WrD K st x qn v f fd) : FunD K x qn (defArgs st) (defBody st) (defScope st) [v] [] f fd := by
  obtain ⟨oc, od, tp, kV, doc, pm, an, cdv, ct, osl, oT, dT, u, nT, sT, rfl, l, c, lT, r⟩ := W.l
  exact ⟨⟨_, _, _, _, _, _, _, _, _, _, rfl, l, c, .inr ⟨by simp, tp, _, [u], nT, rfl, lT, rfl, .cons r .nil⟩, .inl rfl⟩, W.k⟩
/-- an own error -/
structure WrE (prog : Program) (K : PySem.W.Frag) (x : Str) (C fI : Addr) (fs : List Str) : Prop where
  aC : PySem.W.nsIn K mainGlobals x = some (some (.ref C))
  txt : ∀ mg : Str → Option Value, mg x = some (.ref C) → mg "super" = none → SupTxt prog K mg x C fI fs
  exc : ExcC K C
  b1 : PySem.W.subIn K (.ref C) (.type "BaseException") = some true
theorem exm_sub {K : PySem.W.Frag} {D S : Addr} (h1 : PySem.W.subIn K (.ref S) (.type "BaseException") = some true) (h2 : PySem.W.isClsIn K S = true) (h3 : PySem.W.typeIn K (.ref S) = some (.type "type")) (h4 : PySem.W.subIn K (.ref D) (.ref S) = some true) : PySem.W.exmOne K (.ref D) (.ref S) = some true := by
  have h2' : (PySem.W.clsIn K S).isSome = true := h2
  have key : PySem.W.exmOne K (.ref D) (.ref S) = if (PySem.W.subIn K (.ref S) (.type "BaseException") == some true) = true then (if ((PySem.W.clsIn K S).isSome && PySem.W.typeIn K (.ref S) == some (.type "type")) = true then PySem.W.subIn K (.ref D) (.ref S) else none) else none := rfl
  rw [key, h1, h2', h3, h4]
  rfl
theorem along_of {K : PySem.W.Frag} {C N : Addr} {nm q : Str} {bs bm : List Value} {v : Value} {b : Bool} {sn : List Str} {sub : List Value} {ab : Bool} {col : Option Bool} {dd : Option Addr} {k0 k1 k2 k3 k5 : Option Value} {mk : String} (xL : K.lookup C = some (excClassObj nm q C N bs bm b sn sub ab col dd k0 k1 k2 k3 k5 mk)) (h : PySem.W.ks_superIn K C C "__init__" = some (some v)) : PySem.W.alongIn K "__init__" bm = some (some v) := by
  unfold PySem.W.ks_superIn PySem.W.clsIn at h
  rw [xL] at h
  simpa [excClassObj] using h
def ecF (c1 c2 c3 c4 c5 c6 c7 c8 c9 : Addr) : EK → Addr
  | .count => c1
  | .name => c2
  | .twice => c3
  | .cap => c4
  | .unk => c5
  | .term => c6
  | .sort => c7
  | .rows => c8
  | .large => c9
theorem all_mk {l : PySem.W.OpenLaw} {w : World} {K : PySem.W.Frag} {h : Heap} {mg : Str → Option Value} {fa C CS re f17 f16 f18 f19 f24 f27 f28 f29 f30 f31 f32 f33 f34 f35 f36 f37 f38 f39 g0 g1 g2 g4 g5 g7 u0 u1 u2 u3 u9 u10 u11 u12 u13 u14 u15 u16 u17 c1 c2 c3 c4 c5 c6 c7 c8 c9 i1 i2 i3 i4 i5 i6 i7 i8 i9 : Addr} {d17 d16 d18 d19 d24 d27 d28 d29 d30 d31 d32 d33 d34 d35 d36 d37 d38 d39 h0 h1 h2 h4 h5 h7 v0 v1 v2 v3 v9 v10 v11 v12 v13 v14 v15 v16 v17 : FuncData} {t1 t2 t3 t4 : Tok} (X : K.In h) (G : h.Ns mainGlobals mg) (hfa : mg "law" = some (.ref fa))
    (w16 : Wrt K 16 "is_name" f16 d16)
    (w18 : Wrt K 18 "letter_key" f18 d18)
    (w19 : Wrt K 19 "in_order" f19 d19)
    (w24 : Wrt K 24 "joined" f24 d24)
    (w27 : Wrt K 27 "_law_draws" f27 d27)
    (w28 : Wrt K 28 "_law_take" f28 d28)
    (w29 : Wrt K 29 "_law_is_number" f29 d29)
    (w30 : Wrt K 30 "_law_digits" f30 d30)
    (w31 : Wrt K 31 "_law_made" f31 d31)
    (w32 : Wrt K 32 "_law_put" f32 d32)
    (w33 : Wrt K 33 "_law_sizes" f33 d33)
    (w34 : Wrt K 34 "_law_small" f34 d34)
    (w35 : Wrt K 35 "_law_built" f35 d35)
    (w36 : Wrt K 36 "_law_tells" f36 d36)
    (w37 : Wrt K 37 "_law_refuses" f37 d37)
    (w38 : Wrt K 38 "_law_spoils" f38 d38)
    (w39 : Wrt K 39 "law" f39 d39)
    (z_len : PySem.W.nsIn K mainGlobals "len" = some none)
    (z_int : PySem.W.nsIn K mainGlobals "int" = some none)
    (z_abs : PySem.W.nsIn K mainGlobals "abs" = some none)
    (z_sum : PySem.W.nsIn K mainGlobals "sum" = some none)
    (z_range : PySem.W.nsIn K mainGlobals "range" = some none)
    (z_list : PySem.W.nsIn K mainGlobals "list" = some none)
    (z_tuple : PySem.W.nsIn K mainGlobals "tuple" = some none)
    (z_enumerate : PySem.W.nsIn K mainGlobals "enumerate" = some none)
    (z_str : PySem.W.nsIn K mainGlobals "str" = some none)
    (z_isinstance : PySem.W.nsIn K mainGlobals "isinstance" = some none)
    (z_bool : PySem.W.nsIn K mainGlobals "bool" = some none)
    (z_dict : PySem.W.nsIn K mainGlobals "dict" = some none)
    (z_reversed : PySem.W.nsIn K mainGlobals "reversed" = some none)
    (z_super : PySem.W.nsIn K mainGlobals "super" = some none)
    (z_any : PySem.W.nsIn K mainGlobals "any" = some none)
    (z_sorted : PySem.W.nsIn K mainGlobals "sorted" = some none)
    (s1 : PySem.W.nsIn K mainGlobals "SMALL" = some (some (.str small t1))) (s2 : PySem.W.nsIn K mainGlobals "DIGITS" = some (some (.str digits t2))) (s3 : PySem.W.nsIn K mainGlobals "CAPITALS" = some (some (.str capitals t3))) (s4 : PySem.W.nsIn K mainGlobals "MOST_WORDS" = some (some (.int 200 t4)))
    (a17 : PySem.W.nsIn K mainGlobals "is_letter" = some (some (.ref f17))) (w17 : WrD K (topS 17) "is_letter" "is_letter" (.int 9) f17 d17)
    (e1 : WrE l.prog K "BadCount" c1 i1 ["what"])
    (e2 : WrE l.prog K "BadName" c2 i2 ["name"])
    (e3 : WrE l.prog K "Twice" c3 i3 ["name"])
    (e4 : WrE l.prog K "BadCapital" c4 i4 ["capital"])
    (e5 : WrE l.prog K "UnknownName" c5 i5 ["name"])
    (e6 : WrE l.prog K "BadTerm" c6 i6 ["text", "place"])
    (e7 : WrE l.prog K "BadSort" c7 i7 ["at"])
    (e8 : WrE l.prog K "BadRows" c8 i8 ["place"])
    (e9 : WrE l.prog K "TooLarge" c9 i9 ["size"])
    (aR : PySem.W.nsIn K mainGlobals "RuleError" = some (some (.ref re))) (xm : ∀ k, PySem.W.exmOne K (.ref (ecF c1 c2 c3 c4 c5 c6 c7 c8 c9 k)) (.ref re) = some true) (xL : PySem.W.exmOne K (.ref c9) (.ref c9) = some true) (kt : ∀ j k, PySem.W.kitOne K (.ref (ecF c1 c2 c3 c4 c5 c6 c7 c8 c9 j)) (.ref (ecF c1 c2 c3 c4 c5 c6 c7 c8 c9 k)) = some (decide (j = k)))
    (aS : PySem.W.nsIn K mainGlobals "Signature" = some (some (.ref CS))) (SS : SigC K CS) (mkS : PySem.W.makesIn K CS = true) (kCS : PySem.W.keepIn K (.ref CS) = true)
    (aT : PySem.W.nsIn K mainGlobals "Terms" = some (some (.ref C))) (S : TermC K C) (mkT : PySem.W.makesIn K C = true) (kCT : PySem.W.keepIn K (.ref C) = true)
    (m0 : WrM K CS (sSig 0) "__init__" "Signature.__init__" g0 h0)
    (m1 : WrM K CS (sSig 1) "_add_sort" "Signature._add_sort" g1 h1)
    (m2 : WrM K CS (sSig 2) "_add_sign" "Signature._add_sign" g2 h2)
    (m4 : WrM K CS (sSig 4) "arguments" "Signature.arguments" g4 h4)
    (m5 : WrM K CS (sSig 5) "result" "Signature.result" g5 h5)
    (m7 : Meth K CS "sort_of_word" g7) (D7 : WrD K (sSig 7) "sort_of_word" "Signature.sort_of_word" (.int 9) g7 h7)
    (t_0 : WrM K C (sTer 0) "__init__" "Terms.__init__" u0 v0)
    (t_1 : WrM K C (sTer 1) "_put" "Terms._put" u1 v1)
    (t_2 : WrM K C (sTer 2) "letter" "Terms.letter" u2 v2)
    (t_3 : WrM K C (sTer 3) "make" "Terms.make" u3 v3)
    (t_9 : WrM K C (sTer 9) "size_of" "Terms.size_of" u9 v9)
    (t_10 : WrM K C (sTer 10) "letters_of" "Terms.letters_of" u10 v10)
    (t_11 : WrM K C (sTer 11) "first_letters_of" "Terms.first_letters_of" u11 v11)
    (t_12 : WrM K C (sTer 12) "put_in" "Terms.put_in" u12 v12)
    (t_13 : WrM K C (sTer 13) "_touched" "Terms._touched" u13 v13)
    (t_14 : WrM K C (sTer 14) "write" "Terms.write" u14 v14)
    (t_15 : WrM K C (sTer 15) "shared" "Terms.shared" u15 v15)
    (t_16 : WrM K C (sTer 16) "from_shared" "Terms.from_shared" u16 v16)
    (t_17 : WrM K C (sTer 17) "_of_row" "Terms._of_row" u17 v17) :
    ∃ fd : FuncData, (∀ (s : Shared) (u : Value), BindsTo s fd ⟨[u], []⟩ [("script", u)]) ∧ ∀ base : Heap, K.In base → base.Ns mainGlobals mg → FnOk l.prog w K mg base CX0 11 fa fd ["script"] (spLaw K) := by
  have D16_ := w16.at_ (ps := ["text"]) X G fun _ _ _ _ _ _ us hl => match us, hl with | [_], _ => rfl
  have D18_ := w18.at_ (ps := ["letter"]) X G fun _ _ _ _ _ _ us hl => match us, hl with | [_], _ => rfl
  have D19_ := w19.at_ (ps := ["letters"]) X G fun _ _ _ _ _ _ us hl => match us, hl with | [_], _ => rfl
  have D24_ := w24.at_ (ps := ["first", "second"]) X G fun _ _ _ _ _ _ us hl => match us, hl with | [_, _], _ => rfl
  have D27_ := w27.at_ (ps := ["script", "first", "cells"]) X G fun _ _ _ _ _ _ us hl => match us, hl with | [_, _, _], _ => rfl
  have D28_ := w28.at_ (ps := ["draws", "many"]) X G fun _ _ _ _ _ _ us hl => match us, hl with | [_, _], _ => rfl
  have D29_ := w29.at_ (ps := ["told"]) X G fun _ _ _ _ _ _ us hl => match us, hl with | [_], _ => rfl
  have D30_ := w30.at_ (ps := ["draws"]) X G fun _ _ _ _ _ _ us hl => match us, hl with | [_], _ => rfl
  have D31_ := w31.at_ (ps := ["rows", "word", "places"]) X G fun _ _ _ _ _ _ us hl => match us, hl with | [_, _, _], _ => rfl
  have D32_ := w32.at_ (ps := ["rows", "inner"]) X G fun _ _ _ _ _ _ us hl => match us, hl with | [_, _], _ => rfl
  have D33_ := w33.at_ (ps := ["rows"]) X G fun _ _ _ _ _ _ us hl => match us, hl with | [_], _ => rfl
  have D34_ := w34.at_ (ps := ["draws", "letter", "one", "many", "arity"]) X G fun _ _ _ _ _ _ us hl => match us, hl with | [_, _, _, _, _], _ => rfl
  have D35_ := w35.at_ (ps := ["terms", "rows"]) X G fun _ _ _ _ _ _ us hl => match us, hl with | [_, _], _ => rfl
  have D36_ := w36.at_ (ps := ["terms", "number", "rows", "letter"]) X G fun _ _ _ _ _ _ us hl => match us, hl with | [_, _, _, _], _ => rfl
  have D37_ := w37.at_ (ps := ["terms", "rows", "spoilt", "due"]) X G fun _ _ _ _ _ _ us hl => match us, hl with | [_, _, _, _], _ => rfl
  have D38_ := w38.at_ (ps := ["draws", "terms", "rows", "one", "many", "arity"]) X G fun _ _ _ _ _ _ us hl => match us, hl with | [_, _, _, _, _, _], _ => rfl
  have D39_ := w39.at_ (ps := ["script"]) X G fun _ _ _ _ _ _ us hl => match us, hl with | [_], _ => rfl
  have e := hfa.symm.trans D39_.g
  cases e
  have m_len := PySem.W.mg_none_of X G z_len
  have m_int := PySem.W.mg_none_of X G z_int
  have m_abs := PySem.W.mg_none_of X G z_abs
  have m_sum := PySem.W.mg_none_of X G z_sum
  have m_range := PySem.W.mg_none_of X G z_range
  have m_list := PySem.W.mg_none_of X G z_list
  have m_tuple := PySem.W.mg_none_of X G z_tuple
  have m_enumerate := PySem.W.mg_none_of X G z_enumerate
  have m_str := PySem.W.mg_none_of X G z_str
  have m_isinstance := PySem.W.mg_none_of X G z_isinstance
  have m_bool := PySem.W.mg_none_of X G z_bool
  have m_dict := PySem.W.mg_none_of X G z_dict
  have m_reversed := PySem.W.mg_none_of X G z_reversed
  have m_super := PySem.W.mg_none_of X G z_super
  have m_any := PySem.W.mg_none_of X G z_any
  have m_sorted := PySem.W.mg_none_of X G z_sorted
  have N : Nm mg := ⟨m_len, ⟨_, PySem.W.mg_of X G s1⟩, ⟨_, PySem.W.mg_of X G s2⟩, ⟨_, PySem.W.mg_of X G s3⟩⟩
  have M : NmS mg := ⟨m_isinstance, m_bool, m_int, m_str, m_dict, m_tuple, m_list, m_range⟩
  have ME : NmE mg := ⟨m_enumerate, m_reversed, m_any, m_sorted, m_sum⟩
  have E0 : Errs l.prog K mg (ecF c1 c2 c3 c4 c5 c6 c7 c8 c9) (ecF i1 i2 i3 i4 i5 i6 i7 i8 i9) := ⟨fun k => by
    cases k with
    | count => exact e1.txt mg (PySem.W.mg_of X G e1.aC) m_super
    | name => exact e2.txt mg (PySem.W.mg_of X G e2.aC) m_super
    | twice => exact e3.txt mg (PySem.W.mg_of X G e3.aC) m_super
    | cap => exact e4.txt mg (PySem.W.mg_of X G e4.aC) m_super
    | unk => exact e5.txt mg (PySem.W.mg_of X G e5.aC) m_super
    | term => exact e6.txt mg (PySem.W.mg_of X G e6.aC) m_super
    | sort => exact e7.txt mg (PySem.W.mg_of X G e7.aC) m_super
    | rows => exact e8.txt mg (PySem.W.mg_of X G e8.aC) m_super
    | large => exact e9.txt mg (PySem.W.mg_of X G e9.aC) m_super, fun k => by
    cases k with
    | count => exact e1.exc
    | name => exact e2.exc
    | twice => exact e3.exc
    | cap => exact e4.exc
    | unk => exact e5.exc
    | term => exact e6.exc
    | sort => exact e7.exc
    | rows => exact e8.exc
    | large => exact e9.exc, kt⟩
  have Ca : Caught K (ecF c1 c2 c3 c4 c5 c6 c7 c8 c9) re := ⟨xm, xL⟩
  have gR := PySem.W.mg_of X G aR
  have gW := PySem.W.mg_of X G s4
  have L17 : LetD K f17 d17 := w17.F
  obtain ⟨dn7, vn7, bn7⟩ := D7.F.binds1 (ps := ["self", "word", "digits"]) 3 1 (by simp) rfl (fun T kV doc pm an cdv ct us its l1 l2 => match us, its, l1, l2 with | [_, _, _], [_], _, _ => ⟨_, rfl, rfl⟩)
  cases vn7
  refine ⟨d39, fun s v => ?_, fun base _ _ => ?_⟩
  · obtain ⟨oc, od, kV, doc, pm, an, cdv, ct, osl, rfl, _⟩ := w39.l
    exact .of_eq rfl
  · have bM : ∀ {D : Addr} {st : Stmt} {m qn : Str} {f : Addr} {fd : FuncData} {ps : List Str} (W : WrM K D st m qn f fd) (hb : ∀ (kV doc pm : Value) (an : Option Addr) (cdv ct : Value) (us : List Value), us.length = ps.length → bindArgs (PySem.W.fnOf m qn (defArgs st) (defBody st) (defScope st) .none kV doc pm an cdv ct) ⟨us, []⟩ = pure (ps.zip us)), Binds K fd ps [] := fun W hb => W.F.binds hb
    have bb0 := bM (ps := ["self", "sorts", "signs"]) m0 fun _ _ _ _ _ _ us hl => match us, hl with | [_, _, _], _ => rfl
    have bb1 := bM (ps := ["self", "name", "capital"]) m1 fun _ _ _ _ _ _ us hl => match us, hl with | [_, _, _], _ => rfl
    have bb2 := bM (ps := ["self", "name", "arguments", "result"]) m2 fun _ _ _ _ _ _ us hl => match us, hl with | [_, _, _, _], _ => rfl
    have bb4 := bM (ps := ["self", "sign"]) m4 fun _ _ _ _ _ _ us hl => match us, hl with | [_, _], _ => rfl
    have bb5 := bM (ps := ["self", "sign"]) m5 fun _ _ _ _ _ _ us hl => match us, hl with | [_, _], _ => rfl
    have bt0 := bM (ps := ["self", "signature"]) t_0 fun _ _ _ _ _ _ us hl => match us, hl with | [_, _], _ => rfl
    have bt1 := bM (ps := ["self", "word", "parts", "kind"]) t_1 fun _ _ _ _ _ _ us hl => match us, hl with | [_, _, _, _], _ => rfl
    have bt2 := bM (ps := ["self", "text"]) t_2 fun _ _ _ _ _ _ us hl => match us, hl with | [_, _], _ => rfl
    have bt3 := bM (ps := ["self", "sign", "parts"]) t_3 fun _ _ _ _ _ _ us hl => match us, hl with | [_, _, _], _ => rfl
    have bt9 := bM (ps := ["self", "term"]) t_9 fun _ _ _ _ _ _ us hl => match us, hl with | [_, _], _ => rfl
    have bt10 := bM (ps := ["self", "term"]) t_10 fun _ _ _ _ _ _ us hl => match us, hl with | [_, _], _ => rfl
    have bt11 := bM (ps := ["self", "term"]) t_11 fun _ _ _ _ _ _ us hl => match us, hl with | [_, _], _ => rfl
    have bt12 := bM (ps := ["self", "term", "filling"]) t_12 fun _ _ _ _ _ _ us hl => match us, hl with | [_, _, _], _ => rfl
    have bt13 := bM (ps := ["self", "term", "filling"]) t_13 fun _ _ _ _ _ _ us hl => match us, hl with | [_, _, _], _ => rfl
    have bt14 := bM (ps := ["self", "term"]) t_14 fun _ _ _ _ _ _ us hl => match us, hl with | [_, _], _ => rfl
    have bt15 := bM (ps := ["self", "term"]) t_15 fun _ _ _ _ _ _ us hl => match us, hl with | [_, _], _ => rfl
    have bt16 := bM (ps := ["self", "rows"]) t_16 fun _ _ _ _ _ _ us hl => match us, hl with | [_, _], _ => rfl
    have bt17 := bM (ps := ["self", "row", "numbers"]) t_17 fun _ _ _ _ _ _ us hl => match us, hl with | [_, _, _], _ => rfl
    have LET : LetAt l.prog w K mg base f17 d17 := ⟨ok_is_letter L17 N, PySem.W.mg_of X G a17, L17.kp, L17⟩
    have I0 := ok_init (P := l.prog) (w := w) (base := base) m0.F m1.F m2.F m1.m m2.m D16_ N M SS E0 bb1 bb2
    have SGK : MkC l.prog w K mg base (L2N.CX l.prog w) 3 "Signature" CS ["self", "sorts", "signs"] (spInit (ecF c1 c2 c3 c4 c5 c6 c7 c8 c9) CS) g0 h0 := ⟨I0, ⟨mkS, m0.a, m0.i, kCS⟩, PySem.W.mg_of X G aS, bb0⟩
    have TMK : MkC l.prog w K mg base CX0 1 "Terms" C ["self", "signature"] (spTInit C) u0 v0 := ⟨ok_tinit t_0.F S, ⟨mkT, t_0.a, t_0.i, kCT⟩, PySem.W.mg_of X G aT, bt0⟩
    have AR : MethAt l.prog w K mg base (L2N.CX l.prog w) 1 CS "arguments" ["self", "sign"] [] (spLook (ecF c1 c2 c3 c4 c5 c6 c7 c8 c9) CS "_arguments") g4 h4 [] := ⟨m4.m, ok_arguments m4.F SS E0, bb4, .nil⟩
    have RS : MethAt l.prog w K mg base (L2N.CX l.prog w) 1 CS "result" ["self", "sign"] [] (spLook (ecF c1 c2 c3 c4 c5 c6 c7 c8 c9) CS "_results") g5 h5 [] := ⟨m5.m, ok_result m5.F SS E0, bb5, .nil⟩
    have W2 : MethAt l.prog w K mg base CX0 2 CS "sort_of_word" ["self", "word", "digits"] [] (spSortW CS) g7 h7 [] := ⟨m7, ok_sow D7.F SS LET, bn7, .nil⟩
    have T : TakeAt l.prog w K mg base f28 d28 := D28_.gen (ok_take (P := l.prog) (w := w) (base := base) D28_ m_int)
    have DR := D27_.gen (ok_draws (P := l.prog) (w := w) (base := base) D27_ N m_int m_abs m_sum m_range)
    have IO := D19_.gen (ok_in_order (P := l.prog) (w := w) (base := base) D19_ D18_ m_int m_sorted m_list)
    have JO := D24_.gen (ok_joined (P := l.prog) (w := w) (base := base) D24_ IO M)
    have PT : MethAt l.prog w K mg base CX0 6 C "_put" ["self", "word", "parts", "kind"] [] (spPut C) u1 v1 [] := ⟨t_1.m, ok_put t_1.F S JO N, bt1, .nil⟩
    have LE : MethAt l.prog w K mg base CX0 7 C "letter" ["self", "text"] [] (spLetter C CS) u2 v2 [] := ⟨t_2.m, ok_letter t_2.F S SS LET W2 PT, bt2, .nil⟩
    have MA : MethAt l.prog w K mg base CX0 7 C "make" ["self", "sign", "parts"] [] (spMake C CS) u3 v3 [] := ⟨t_3.m, ok_make t_3.F S SS N M ME AR RS PT, bt3, .nil⟩
    have SZ : MethAt l.prog w K mg base CX0 1 C "size_of" ["self", "term"] [] (spSize C) u9 v9 [] := ⟨t_9.m, ok_size t_9.F S, bt9, .nil⟩
    have LS : MethAt l.prog w K mg base CX0 1 C "letters_of" ["self", "term"] [] (spLetters C) u10 v10 [] := ⟨t_10.m, ok_letters t_10.F S, bt10, .nil⟩
    have FL : MethAt l.prog w K mg base CX0 1 C "first_letters_of" ["self", "term"] [] (spFirst C) u11 v11 [] := ⟨t_11.m, ok_first t_11.F S N M ME, bt11, .nil⟩
    have TO : MethAt l.prog w K mg base CX0 1 C "_touched" ["self", "term", "filling"] [] (spTouched C) u13 v13 [] := ⟨t_13.m, ok_touched t_13.F S N M ME, bt13, .nil⟩
    have PI : MethAt l.prog w K mg base CX0 7 C "put_in" ["self", "term", "filling"] [] (spPutIn C CS) u12 v12 [] := ⟨t_12.m, ok_put_in t_12.F S SS N M IO TO W2 PT, bt12, .nil⟩
    have WR : MethAt l.prog w K mg base (L2N.CX l.prog w) 2 C "write" ["self", "term"] [] (spWrite (ecF c1 c2 c3 c4 c5 c6 c7 c8 c9) C) u14 v14 [] := ⟨t_14.m, ok_write t_14.F S E0 N M ME gW, bt14, .nil⟩
    have SH : MethAt l.prog w K mg base CX0 1 C "shared" ["self", "term"] [] (spShared C) u15 v15 [] := ⟨t_15.m, ok_shared t_15.F S N M ME, bt15, .nil⟩
    have OR : MethAt l.prog w K mg base CX0 7 C "_of_row" ["self", "row", "numbers"] [] (spOfRow C CS) u17 v17 [] := ⟨t_17.m, ok_of_row t_17.F S SS N M ME W2 AR PT, bt17, .nil⟩
    have FS : MethAt l.prog w K mg base (L2N.CX l.prog w) 8 C "from_shared" ["self", "rows"] [] (spFromShared (ecF c1 c2 c3 c4 c5 c6 c7 c8 c9) C CS) u16 v16 [] := ⟨t_16.m, ok_from_shared t_16.F S E0 N M ME OR SH, bt16, .nil⟩
    have IN := D29_.gen (ok_is_number (P := l.prog) (w := w) (base := base) D29_ M)
    have INT : GenT l.prog w K mg base 1 "_law_is_number" ["told"] spIsNum f29 d29 := ⟨okT_is_number D29_ M, D29_.g, D29_.F.kp, D29_.b⟩
    have DI := D30_.gen (ok_digits (P := l.prog) (w := w) (base := base) D30_ T N M)
    have MD := D31_.gen (ok_made (P := l.prog) (w := w) (base := base) D31_ M)
    have PU := D32_.gen (ok_ex fun p hp => ok_putR (P := l.prog) (w := w) (base := base) hp D32_ MD N M)
    have SM := D34_.gen (ok_ex fun p hp => ok_small (P := l.prog) (w := w) (base := base) hp D34_ T MD N M)
    have BU := D35_.gen (sp := spEx fun p => spBuilt p C CS) (ok_ex fun p hp => ok_built (P := l.prog) (w := w) (base := base) hp D35_ S LE MA N)
    have TL := D36_.gen (sp := spEx fun p => spTells p C CS) (ok_ex fun p hp => ok_tells (P := l.prog) (w := w) (base := base) hp D36_ S E0 Ca N M IN INT (D33_.gen (ok_sizes (P := l.prog) (w := w) (base := base) hp D33_ ME)) SZ LS FL SH WR)
    have SP := D38_.gen (sp := spEx fun p => spSpoils p C CS) (ok_ex fun p hp => ok_spoils (P := l.prog) (w := w) (base := base) hp D38_ T (D37_.gen (ok_refuses (P := l.prog) (w := w) (base := base) hp D37_ S E0 Ca gR N M INT FS)) N M)
    exact ok_law D39_ DR T S DI MD PU SM BU TL SP SGK TMK MA PI FS SH N M
end K87
-- Fin
open PySem PySem.W PyProof.Rows
set_option maxHeartbeats 0 in
theorem PySem.Challenge.cw_rulesonrules_k87_great_terms_shared_holds : PySem.Challenge.rw_rulesonrules_k87_great_terms_shared.Holds := by
  w_on; o_law; k_head; (case hw => w_witness2)
  k_fill
  refine L2.walk_ofK (l := PySem.Challenge.rw_rulesonrules_k87_great_terms_shared) (n := 63) (k := 11) (x := "script") (CX := L2.CX0) (sp := K87.spLaw) rfl (by decide) rfl ⟨rfl, by decide, by decide⟩ (fun w h Y => PySem.W.kIn_of Y) ?F (fun K H a ns _ _ hS => ⟨a, ns, rfl, hS, fun _ => rfl⟩) (fun _ _ _ _ z => z)
  case F =>
    intro w mg fa h KX G hmg
    refine' K87.all_mk KX G hmg ?w16 ?w18 ?w19 ?w24 ?w27 ?w28 ?w29 ?w30 ?w31 ?w32 ?w33 ?w34 ?w35 ?w36 ?w37 ?w38 ?w39 ?z_len ?z_int ?z_abs ?z_sum ?z_range ?z_list ?z_tuple ?z_enumerate ?z_str ?z_isinstance ?z_bool ?z_dict ?z_reversed ?z_super ?z_any ?z_sorted ?s1 ?s2 ?s3 ?s4 ?a17 ?w17 ?e1 ?e2 ?e3 ?e4 ?e5 ?e6 ?e7 ?e8 ?e9 ?aR ?xm ?xL ?kt ?aS ?SS ?mkS ?kCS ?aT ?S ?mkT ?kCT ?m0 ?m1 ?m2 ?m4 ?m5 ?m7 ?D7 ?t_0 ?t_1 ?t_2 ?t_3 ?t_9 ?t_10 ?t_11 ?t_12 ?t_13 ?t_14 ?t_15 ?t_16 ?t_17
    (case aS => k_is)
    (case aR => k_is)
    (case aT => k_is)
    (case w16 => exact ⟨by k_is, ⟨_, _, _, _, _, _, _, _, _, rfl, by k_is, by k_is⟩, by k_is⟩)
    (case w18 => exact ⟨by k_is, ⟨_, _, _, _, _, _, _, _, _, rfl, by k_is, by k_is⟩, by k_is⟩)
    (case w19 => exact ⟨by k_is, ⟨_, _, _, _, _, _, _, _, _, rfl, by k_is, by k_is⟩, by k_is⟩)
    (case w24 => exact ⟨by k_is, ⟨_, _, _, _, _, _, _, _, _, rfl, by k_is, by k_is⟩, by k_is⟩)
    (case w27 => exact ⟨by k_is, ⟨_, _, _, _, _, _, _, _, _, rfl, by k_is, by k_is⟩, by k_is⟩)
    (case w28 => exact ⟨by k_is, ⟨_, _, _, _, _, _, _, _, _, rfl, by k_is, by k_is⟩, by k_is⟩)
    (case w29 => exact ⟨by k_is, ⟨_, _, _, _, _, _, _, _, _, rfl, by k_is, by k_is⟩, by k_is⟩)
    (case w30 => exact ⟨by k_is, ⟨_, _, _, _, _, _, _, _, _, rfl, by k_is, by k_is⟩, by k_is⟩)
    (case w31 => exact ⟨by k_is, ⟨_, _, _, _, _, _, _, _, _, rfl, by k_is, by k_is⟩, by k_is⟩)
    (case w32 => exact ⟨by k_is, ⟨_, _, _, _, _, _, _, _, _, rfl, by k_is, by k_is⟩, by k_is⟩)
    (case w33 => exact ⟨by k_is, ⟨_, _, _, _, _, _, _, _, _, rfl, by k_is, by k_is⟩, by k_is⟩)
    (case w34 => exact ⟨by k_is, ⟨_, _, _, _, _, _, _, _, _, rfl, by k_is, by k_is⟩, by k_is⟩)
    (case w35 => exact ⟨by k_is, ⟨_, _, _, _, _, _, _, _, _, rfl, by k_is, by k_is⟩, by k_is⟩)
    (case w36 => exact ⟨by k_is, ⟨_, _, _, _, _, _, _, _, _, rfl, by k_is, by k_is⟩, by k_is⟩)
    (case w37 => exact ⟨by k_is, ⟨_, _, _, _, _, _, _, _, _, rfl, by k_is, by k_is⟩, by k_is⟩)
    (case w38 => exact ⟨by k_is, ⟨_, _, _, _, _, _, _, _, _, rfl, by k_is, by k_is⟩, by k_is⟩)
    (case w39 => exact ⟨by k_is, ⟨_, _, _, _, _, _, _, _, _, rfl, by k_is, by k_is⟩, by k_is⟩)
    (case z_len => k_is)
    (case z_int => k_is)
    (case z_abs => k_is)
    (case z_sum => k_is)
    (case z_range => k_is)
    (case z_list => k_is)
    (case z_tuple => k_is)
    (case z_enumerate => k_is)
    (case z_str => k_is)
    (case z_isinstance => k_is)
    (case z_bool => k_is)
    (case z_dict => k_is)
    (case z_reversed => k_is)
    (case z_super => k_is)
    (case z_any => k_is)
    (case z_sorted => k_is)
    (case s1 => k_is)
    (case s2 => k_is)
    (case s3 => k_is)
    (case s4 => k_is)
    (case a17 => k_is)
    (case w17 => exact ⟨⟨_, _, _, _, _, _, _, _, _, _, _, _, _, _, _, rfl, by k_is, by k_is, by k_is, ⟨_, rfl⟩⟩, by k_is⟩)
    (case e1 =>
      refine' K87.WrE.mk ?aCE1 ?txtE1 ?excE1 ?b1E1
      (case aCE1 => k_is)
      (case excE1 => exact ⟨by k_is, by k_is, by k_is, by k_is, by k_is, by k_is, by k_is, by k_is⟩)
      (case b1E1 => k_is)
      (case txtE1 =>
        intro mg' gC' su
        refine' KSup.SupTxt.mk gC' ?clsE1 ?saE1 ?iCE1 ?tIE1 ?kCE1 ?exCE1 ?veCE1 ?tyCE1 ?ccE1 ?noE1 ?ndE1 ?nzE1 ?dbgE1 ?statE1 su ?topE1 ?fnE1
        (case clsE1 =>
          refine' ⟨_, _, _, _, _, _, _, _, _, _, _, _, _, _, _, ?xlE1, ?rfE1, K87.along_of ?xlE1 ?ksE1⟩
          (case xlE1 => k_is)
          (case rfE1 => rfl)
          (case ksE1 => ks_is))
        (case saE1 => k_is)
        (case iCE1 => k_is)
        (case tIE1 => k_is)
        (case kCE1 => k_is)
        (case exCE1 => k_is)
        (case veCE1 => k_is)
        (case tyCE1 => k_is)
        (case ccE1 => k_is)
        (case noE1 => exact fun f hf => by (rw [List.mem_singleton.mp hf]; k_is))
        (case ndE1 => decide)
        (case nzE1 => decide)
        (case dbgE1 => exact fun f hf => by (rw [List.mem_singleton.mp hf]; decide))
        (case statE1 => k_is)
        (case topE1 => decide +kernel)
        (case fnE1 => exact ⟨_, _, _, _, _, _, _, _, _, L2.defArgs (L2.inClass (K87.topS 7) 0), L2.defScope (L2.inClass (K87.topS 7) 0), _, _, _, _, _, _, _, _, _, _, _, _, _, _, _, _, _, _, _, _, by k_is, by k_is, ⟨_, _, _, _, _, rfl, rfl⟩, rfl, rfl, by k_is, rfl, by decide +kernel, rfl, by k_is, rfl, rfl, rfl, by decide +kernel, rfl, rfl, by decide +kernel, fun s us hu => match us, hu with | [_, _], _ => .of_eq rfl⟩)))
    (case e2 =>
      refine' K87.WrE.mk ?aCE2 ?txtE2 ?excE2 ?b1E2
      (case aCE2 => k_is)
      (case excE2 => exact ⟨by k_is, by k_is, by k_is, by k_is, by k_is, by k_is, by k_is, by k_is⟩)
      (case b1E2 => k_is)
      (case txtE2 =>
        intro mg' gC' su
        refine' KSup.SupTxt.mk gC' ?clsE2 ?saE2 ?iCE2 ?tIE2 ?kCE2 ?exCE2 ?veCE2 ?tyCE2 ?ccE2 ?noE2 ?ndE2 ?nzE2 ?dbgE2 ?statE2 su ?topE2 ?fnE2
        (case clsE2 =>
          refine' ⟨_, _, _, _, _, _, _, _, _, _, _, _, _, _, _, ?xlE2, ?rfE2, K87.along_of ?xlE2 ?ksE2⟩
          (case xlE2 => k_is)
          (case rfE2 => rfl)
          (case ksE2 => ks_is))
        (case saE2 => k_is)
        (case iCE2 => k_is)
        (case tIE2 => k_is)
        (case kCE2 => k_is)
        (case exCE2 => k_is)
        (case veCE2 => k_is)
        (case tyCE2 => k_is)
        (case ccE2 => k_is)
        (case noE2 => exact fun f hf => by (rw [List.mem_singleton.mp hf]; k_is))
        (case ndE2 => decide)
        (case nzE2 => decide)
        (case dbgE2 => exact fun f hf => by (rw [List.mem_singleton.mp hf]; decide))
        (case statE2 => k_is)
        (case topE2 => decide +kernel)
        (case fnE2 => exact ⟨_, _, _, _, _, _, _, _, _, L2.defArgs (L2.inClass (K87.topS 3) 0), L2.defScope (L2.inClass (K87.topS 3) 0), _, _, _, _, _, _, _, _, _, _, _, _, _, _, _, _, _, _, _, _, by k_is, by k_is, ⟨_, _, _, _, _, rfl, rfl⟩, rfl, rfl, by k_is, rfl, by decide +kernel, rfl, by k_is, rfl, rfl, rfl, by decide +kernel, rfl, rfl, by decide +kernel, fun s us hu => match us, hu with | [_, _], _ => .of_eq rfl⟩)))
    (case e3 =>
      refine' K87.WrE.mk ?aCE3 ?txtE3 ?excE3 ?b1E3
      (case aCE3 => k_is)
      (case excE3 => exact ⟨by k_is, by k_is, by k_is, by k_is, by k_is, by k_is, by k_is, by k_is⟩)
      (case b1E3 => k_is)
      (case txtE3 =>
        intro mg' gC' su
        refine' KSup.SupTxt.mk gC' ?clsE3 ?saE3 ?iCE3 ?tIE3 ?kCE3 ?exCE3 ?veCE3 ?tyCE3 ?ccE3 ?noE3 ?ndE3 ?nzE3 ?dbgE3 ?statE3 su ?topE3 ?fnE3
        (case clsE3 =>
          refine' ⟨_, _, _, _, _, _, _, _, _, _, _, _, _, _, _, ?xlE3, ?rfE3, K87.along_of ?xlE3 ?ksE3⟩
          (case xlE3 => k_is)
          (case rfE3 => rfl)
          (case ksE3 => ks_is))
        (case saE3 => k_is)
        (case iCE3 => k_is)
        (case tIE3 => k_is)
        (case kCE3 => k_is)
        (case exCE3 => k_is)
        (case veCE3 => k_is)
        (case tyCE3 => k_is)
        (case ccE3 => k_is)
        (case noE3 => exact fun f hf => by (rw [List.mem_singleton.mp hf]; k_is))
        (case ndE3 => decide)
        (case nzE3 => decide)
        (case dbgE3 => exact fun f hf => by (rw [List.mem_singleton.mp hf]; decide))
        (case statE3 => k_is)
        (case topE3 => decide +kernel)
        (case fnE3 => exact ⟨_, _, _, _, _, _, _, _, _, L2.defArgs (L2.inClass (K87.topS 4) 0), L2.defScope (L2.inClass (K87.topS 4) 0), _, _, _, _, _, _, _, _, _, _, _, _, _, _, _, _, _, _, _, _, by k_is, by k_is, ⟨_, _, _, _, _, rfl, rfl⟩, rfl, rfl, by k_is, rfl, by decide +kernel, rfl, by k_is, rfl, rfl, rfl, by decide +kernel, rfl, rfl, by decide +kernel, fun s us hu => match us, hu with | [_, _], _ => .of_eq rfl⟩)))
    (case e4 =>
      refine' K87.WrE.mk ?aCE4 ?txtE4 ?excE4 ?b1E4
      (case aCE4 => k_is)
      (case excE4 => exact ⟨by k_is, by k_is, by k_is, by k_is, by k_is, by k_is, by k_is, by k_is⟩)
      (case b1E4 => k_is)
      (case txtE4 =>
        intro mg' gC' su
        refine' KSup.SupTxt.mk gC' ?clsE4 ?saE4 ?iCE4 ?tIE4 ?kCE4 ?exCE4 ?veCE4 ?tyCE4 ?ccE4 ?noE4 ?ndE4 ?nzE4 ?dbgE4 ?statE4 su ?topE4 ?fnE4
        (case clsE4 =>
          refine' ⟨_, _, _, _, _, _, _, _, _, _, _, _, _, _, _, ?xlE4, ?rfE4, K87.along_of ?xlE4 ?ksE4⟩
          (case xlE4 => k_is)
          (case rfE4 => rfl)
          (case ksE4 => ks_is))
        (case saE4 => k_is)
        (case iCE4 => k_is)
        (case tIE4 => k_is)
        (case kCE4 => k_is)
        (case exCE4 => k_is)
        (case veCE4 => k_is)
        (case tyCE4 => k_is)
        (case ccE4 => k_is)
        (case noE4 => exact fun f hf => by (rw [List.mem_singleton.mp hf]; k_is))
        (case ndE4 => decide)
        (case nzE4 => decide)
        (case dbgE4 => exact fun f hf => by (rw [List.mem_singleton.mp hf]; decide))
        (case statE4 => k_is)
        (case topE4 => decide +kernel)
        (case fnE4 => exact ⟨_, _, _, _, _, _, _, _, _, L2.defArgs (L2.inClass (K87.topS 6) 0), L2.defScope (L2.inClass (K87.topS 6) 0), _, _, _, _, _, _, _, _, _, _, _, _, _, _, _, _, _, _, _, _, by k_is, by k_is, ⟨_, _, _, _, _, rfl, rfl⟩, rfl, rfl, by k_is, rfl, by decide +kernel, rfl, by k_is, rfl, rfl, rfl, by decide +kernel, rfl, rfl, by decide +kernel, fun s us hu => match us, hu with | [_, _], _ => .of_eq rfl⟩)))
    (case e5 =>
      refine' K87.WrE.mk ?aCE5 ?txtE5 ?excE5 ?b1E5
      (case aCE5 => k_is)
      (case excE5 => exact ⟨by k_is, by k_is, by k_is, by k_is, by k_is, by k_is, by k_is, by k_is⟩)
      (case b1E5 => k_is)
      (case txtE5 =>
        intro mg' gC' su
        refine' KSup.SupTxt.mk gC' ?clsE5 ?saE5 ?iCE5 ?tIE5 ?kCE5 ?exCE5 ?veCE5 ?tyCE5 ?ccE5 ?noE5 ?ndE5 ?nzE5 ?dbgE5 ?statE5 su ?topE5 ?fnE5
        (case clsE5 =>
          refine' ⟨_, _, _, _, _, _, _, _, _, _, _, _, _, _, _, ?xlE5, ?rfE5, K87.along_of ?xlE5 ?ksE5⟩
          (case xlE5 => k_is)
          (case rfE5 => rfl)
          (case ksE5 => ks_is))
        (case saE5 => k_is)
        (case iCE5 => k_is)
        (case tIE5 => k_is)
        (case kCE5 => k_is)
        (case exCE5 => k_is)
        (case veCE5 => k_is)
        (case tyCE5 => k_is)
        (case ccE5 => k_is)
        (case noE5 => exact fun f hf => by (rw [List.mem_singleton.mp hf]; k_is))
        (case ndE5 => decide)
        (case nzE5 => decide)
        (case dbgE5 => exact fun f hf => by (rw [List.mem_singleton.mp hf]; decide))
        (case statE5 => k_is)
        (case topE5 => decide +kernel)
        (case fnE5 => exact ⟨_, _, _, _, _, _, _, _, _, L2.defArgs (L2.inClass (K87.topS 5) 0), L2.defScope (L2.inClass (K87.topS 5) 0), _, _, _, _, _, _, _, _, _, _, _, _, _, _, _, _, _, _, _, _, by k_is, by k_is, ⟨_, _, _, _, _, rfl, rfl⟩, rfl, rfl, by k_is, rfl, by decide +kernel, rfl, by k_is, rfl, rfl, rfl, by decide +kernel, rfl, rfl, by decide +kernel, fun s us hu => match us, hu with | [_, _], _ => .of_eq rfl⟩)))
    (case e6 =>
      refine' K87.WrE.mk ?aCE6 ?txtE6 ?excE6 ?b1E6
      (case aCE6 => k_is)
      (case excE6 => exact ⟨by k_is, by k_is, by k_is, by k_is, by k_is, by k_is, by k_is, by k_is⟩)
      (case b1E6 => k_is)
      (case txtE6 =>
        intro mg' gC' su
        refine' KSup.SupTxt.mk gC' ?clsE6 ?saE6 ?iCE6 ?tIE6 ?kCE6 ?exCE6 ?veCE6 ?tyCE6 ?ccE6 ?noE6 ?ndE6 ?nzE6 ?dbgE6 ?statE6 su ?topE6 ?fnE6
        (case clsE6 =>
          refine' ⟨_, _, _, _, _, _, _, _, _, _, _, _, _, _, _, ?xlE6, ?rfE6, K87.along_of ?xlE6 ?ksE6⟩
          (case xlE6 => k_is)
          (case rfE6 => rfl)
          (case ksE6 => ks_is))
        (case saE6 => k_is)
        (case iCE6 => k_is)
        (case tIE6 => k_is)
        (case kCE6 => k_is)
        (case exCE6 => k_is)
        (case veCE6 => k_is)
        (case tyCE6 => k_is)
        (case ccE6 => k_is)
        (case noE6 => exact fun f hf => (List.mem_cons.mp hf).elim (fun z => by (rw [z]; k_is)) (fun z => by (rw [List.mem_singleton.mp z]; k_is)))
        (case ndE6 => decide)
        (case nzE6 => decide)
        (case dbgE6 => exact fun f hf => (List.mem_cons.mp hf).elim (fun z => by (rw [z]; decide)) (fun z => by (rw [List.mem_singleton.mp z]; decide)))
        (case statE6 => k_is)
        (case topE6 => decide +kernel)
        (case fnE6 => exact ⟨_, _, _, _, _, _, _, _, _, L2.defArgs (L2.inClass (K87.topS 8) 0), L2.defScope (L2.inClass (K87.topS 8) 0), _, _, _, _, _, _, _, _, _, _, _, _, _, _, _, _, _, _, _, _, by k_is, by k_is, ⟨_, _, _, _, _, rfl, ⟨_, _, _, _, _, rfl, rfl⟩⟩, rfl, rfl, by k_is, rfl, by decide +kernel, rfl, by k_is, rfl, rfl, rfl, by decide +kernel, rfl, rfl, by decide +kernel, fun s us hu => match us, hu with | [_, _, _], _ => .of_eq rfl⟩)))
    (case e7 =>
      refine' K87.WrE.mk ?aCE7 ?txtE7 ?excE7 ?b1E7
      (case aCE7 => k_is)
      (case excE7 => exact ⟨by k_is, by k_is, by k_is, by k_is, by k_is, by k_is, by k_is, by k_is⟩)
      (case b1E7 => k_is)
      (case txtE7 =>
        intro mg' gC' su
        refine' KSup.SupTxt.mk gC' ?clsE7 ?saE7 ?iCE7 ?tIE7 ?kCE7 ?exCE7 ?veCE7 ?tyCE7 ?ccE7 ?noE7 ?ndE7 ?nzE7 ?dbgE7 ?statE7 su ?topE7 ?fnE7
        (case clsE7 =>
          refine' ⟨_, _, _, _, _, _, _, _, _, _, _, _, _, _, _, ?xlE7, ?rfE7, K87.along_of ?xlE7 ?ksE7⟩
          (case xlE7 => k_is)
          (case rfE7 => rfl)
          (case ksE7 => ks_is))
        (case saE7 => k_is)
        (case iCE7 => k_is)
        (case tIE7 => k_is)
        (case kCE7 => k_is)
        (case exCE7 => k_is)
        (case veCE7 => k_is)
        (case tyCE7 => k_is)
        (case ccE7 => k_is)
        (case noE7 => exact fun f hf => by (rw [List.mem_singleton.mp hf]; k_is))
        (case ndE7 => decide)
        (case nzE7 => decide)
        (case dbgE7 => exact fun f hf => by (rw [List.mem_singleton.mp hf]; decide))
        (case statE7 => k_is)
        (case topE7 => decide +kernel)
        (case fnE7 => exact ⟨_, _, _, _, _, _, _, _, _, L2.defArgs (L2.inClass (K87.topS 9) 0), L2.defScope (L2.inClass (K87.topS 9) 0), _, _, _, _, _, _, _, _, _, _, _, _, _, _, _, _, _, _, _, _, by k_is, by k_is, ⟨_, _, _, _, _, rfl, rfl⟩, rfl, rfl, by k_is, rfl, by decide +kernel, rfl, by k_is, rfl, rfl, rfl, by decide +kernel, rfl, rfl, by decide +kernel, fun s us hu => match us, hu with | [_, _], _ => .of_eq rfl⟩)))
    (case e8 =>
      refine' K87.WrE.mk ?aCE8 ?txtE8 ?excE8 ?b1E8
      (case aCE8 => k_is)
      (case excE8 => exact ⟨by k_is, by k_is, by k_is, by k_is, by k_is, by k_is, by k_is, by k_is⟩)
      (case b1E8 => k_is)
      (case txtE8 =>
        intro mg' gC' su
        refine' KSup.SupTxt.mk gC' ?clsE8 ?saE8 ?iCE8 ?tIE8 ?kCE8 ?exCE8 ?veCE8 ?tyCE8 ?ccE8 ?noE8 ?ndE8 ?nzE8 ?dbgE8 ?statE8 su ?topE8 ?fnE8
        (case clsE8 =>
          refine' ⟨_, _, _, _, _, _, _, _, _, _, _, _, _, _, _, ?xlE8, ?rfE8, K87.along_of ?xlE8 ?ksE8⟩
          (case xlE8 => k_is)
          (case rfE8 => rfl)
          (case ksE8 => ks_is))
        (case saE8 => k_is)
        (case iCE8 => k_is)
        (case tIE8 => k_is)
        (case kCE8 => k_is)
        (case exCE8 => k_is)
        (case veCE8 => k_is)
        (case tyCE8 => k_is)
        (case ccE8 => k_is)
        (case noE8 => exact fun f hf => by (rw [List.mem_singleton.mp hf]; k_is))
        (case ndE8 => decide)
        (case nzE8 => decide)
        (case dbgE8 => exact fun f hf => by (rw [List.mem_singleton.mp hf]; decide))
        (case statE8 => k_is)
        (case topE8 => decide +kernel)
        (case fnE8 => exact ⟨_, _, _, _, _, _, _, _, _, L2.defArgs (L2.inClass (K87.topS 10) 0), L2.defScope (L2.inClass (K87.topS 10) 0), _, _, _, _, _, _, _, _, _, _, _, _, _, _, _, _, _, _, _, _, by k_is, by k_is, ⟨_, _, _, _, _, rfl, rfl⟩, rfl, rfl, by k_is, rfl, by decide +kernel, rfl, by k_is, rfl, rfl, rfl, by decide +kernel, rfl, rfl, by decide +kernel, fun s us hu => match us, hu with | [_, _], _ => .of_eq rfl⟩)))
    (case e9 =>
      refine' K87.WrE.mk ?aCE9 ?txtE9 ?excE9 ?b1E9
      (case aCE9 => k_is)
      (case excE9 => exact ⟨by k_is, by k_is, by k_is, by k_is, by k_is, by k_is, by k_is, by k_is⟩)
      (case b1E9 => k_is)
      (case txtE9 =>
        intro mg' gC' su
        refine' KSup.SupTxt.mk gC' ?clsE9 ?saE9 ?iCE9 ?tIE9 ?kCE9 ?exCE9 ?veCE9 ?tyCE9 ?ccE9 ?noE9 ?ndE9 ?nzE9 ?dbgE9 ?statE9 su ?topE9 ?fnE9
        (case clsE9 =>
          refine' ⟨_, _, _, _, _, _, _, _, _, _, _, _, _, _, _, ?xlE9, ?rfE9, K87.along_of ?xlE9 ?ksE9⟩
          (case xlE9 => k_is)
          (case rfE9 => rfl)
          (case ksE9 => ks_is))
        (case saE9 => k_is)
        (case iCE9 => k_is)
        (case tIE9 => k_is)
        (case kCE9 => k_is)
        (case exCE9 => k_is)
        (case veCE9 => k_is)
        (case tyCE9 => k_is)
        (case ccE9 => k_is)
        (case noE9 => exact fun f hf => by (rw [List.mem_singleton.mp hf]; k_is))
        (case ndE9 => decide)
        (case nzE9 => decide)
        (case dbgE9 => exact fun f hf => by (rw [List.mem_singleton.mp hf]; decide))
        (case statE9 => k_is)
        (case topE9 => decide +kernel)
        (case fnE9 => exact ⟨_, _, _, _, _, _, _, _, _, L2.defArgs (L2.inClass (K87.topS 11) 0), L2.defScope (L2.inClass (K87.topS 11) 0), _, _, _, _, _, _, _, _, _, _, _, _, _, _, _, _, _, _, _, _, by k_is, by k_is, ⟨_, _, _, _, _, rfl, rfl⟩, rfl, rfl, by k_is, rfl, by decide +kernel, rfl, by k_is, rfl, rfl, rfl, by decide +kernel, rfl, rfl, by decide +kernel, fun s us hu => match us, hu with | [_, _], _ => .of_eq rfl⟩)))
    (case xm => intro k; cases k <;> (dsimp only [K87.ecF]; exact K87.exm_sub (by k_is) (by k_is) (by k_is) (by first | rfl | k_is)))
    (case xL => exact K87.exm_sub (by k_is) (by k_is) (by k_is) (by first | rfl | k_is))
    (case kt => intro j k; cases j <;> cases k <;> (dsimp only [K87.ecF]; kit_is))
    (case SS => exact ⟨⟨by k_is, by k_is, by k_is, by k_is⟩, fun f hf => by (simp only [List.mem_cons, List.not_mem_nil, or_false] at hf; rcases hf with rfl | rfl | rfl | rfl | rfl | rfl | rfl <;> (show PySem.W.findIn _ _ _ = some none; k_is))⟩)
    (case S => exact ⟨⟨by k_is, by k_is, by k_is, by k_is⟩, fun f hf => by (simp only [K87.tfs, List.mem_cons, List.not_mem_nil, or_false] at hf; rcases hf with rfl | rfl | rfl | rfl | rfl | rfl | rfl | rfl <;> (show PySem.W.findIn _ _ _ = some none; k_is))⟩)
    (case mkS => k_is)
    (case kCS => k_is)
    (case mkT => k_is)
    (case kCT => k_is)
    (case m0 => exact ⟨by k_is, by k_is, ⟨_, _, _, _, _, _, _, _, _, rfl, by k_is, by k_is⟩, by k_is⟩)
    (case m1 => exact ⟨by k_is, by k_is, ⟨_, _, _, _, _, _, _, _, _, rfl, by k_is, by k_is⟩, by k_is⟩)
    (case m2 => exact ⟨by k_is, by k_is, ⟨_, _, _, _, _, _, _, _, _, rfl, by k_is, by k_is⟩, by k_is⟩)
    (case m4 => exact ⟨by k_is, by k_is, ⟨_, _, _, _, _, _, _, _, _, rfl, by k_is, by k_is⟩, by k_is⟩)
    (case m5 => exact ⟨by k_is, by k_is, ⟨_, _, _, _, _, _, _, _, _, rfl, by k_is, by k_is⟩, by k_is⟩)
    (case m7 => exact ⟨by k_is, by k_is, by k_is⟩)
    (case D7 => exact ⟨⟨_, _, _, _, _, _, _, _, _, _, _, _, _, _, _, rfl, by k_is, by k_is, by k_is, ⟨_, rfl⟩⟩, by k_is⟩)
    (case t_0 => exact ⟨by k_is, by k_is, ⟨_, _, _, _, _, _, _, _, _, rfl, by k_is, by k_is⟩, by k_is⟩)
    (case t_1 => exact ⟨by k_is, by k_is, ⟨_, _, _, _, _, _, _, _, _, rfl, by k_is, by k_is⟩, by k_is⟩)
    (case t_2 => exact ⟨by k_is, by k_is, ⟨_, _, _, _, _, _, _, _, _, rfl, by k_is, by k_is⟩, by k_is⟩)
    (case t_3 => exact ⟨by k_is, by k_is, ⟨_, _, _, _, _, _, _, _, _, rfl, by k_is, by k_is⟩, by k_is⟩)
    (case t_9 => exact ⟨by k_is, by k_is, ⟨_, _, _, _, _, _, _, _, _, rfl, by k_is, by k_is⟩, by k_is⟩)
    (case t_10 => exact ⟨by k_is, by k_is, ⟨_, _, _, _, _, _, _, _, _, rfl, by k_is, by k_is⟩, by k_is⟩)
    (case t_11 => exact ⟨by k_is, by k_is, ⟨_, _, _, _, _, _, _, _, _, rfl, by k_is, by k_is⟩, by k_is⟩)
    (case t_12 => exact ⟨by k_is, by k_is, ⟨_, _, _, _, _, _, _, _, _, rfl, by k_is, by k_is⟩, by k_is⟩)
    (case t_13 => exact ⟨by k_is, by k_is, ⟨_, _, _, _, _, _, _, _, _, rfl, by k_is, by k_is⟩, by k_is⟩)
    (case t_14 => exact ⟨by k_is, by k_is, ⟨_, _, _, _, _, _, _, _, _, rfl, by k_is, by k_is⟩, by k_is⟩)
    (case t_15 => exact ⟨by k_is, by k_is, ⟨_, _, _, _, _, _, _, _, _, rfl, by k_is, by k_is⟩, by k_is⟩)
    (case t_16 => exact ⟨by k_is, by k_is, ⟨_, _, _, _, _, _, _, _, _, rfl, by k_is, by k_is⟩, by k_is⟩)
    (case t_17 => exact ⟨by k_is, by k_is, ⟨_, _, _, _, _, _, _, _, _, rfl, by k_is, by k_is⟩, by k_is⟩)
#print axioms PySem.Challenge.cw_rulesonrules_k87_great_terms_shared_holds
